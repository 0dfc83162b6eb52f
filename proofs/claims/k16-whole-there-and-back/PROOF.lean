import PyProof.Rows.All
import Wide.All
import OpenK.AllK
import Wide.FinOn
import HandS.ForMost
import HandS.Codes
import HandS.ReplaceList
import HandS.StrMore
import PyProof.StrLawsFrom
import HandS.ForExc
import HandS.ExcInit
import HandS.ExcField
import HandS.IsInst
import HandS.TupAny
import HandS.Walk
import HandS.ReplaceLit
import PyProof.EnumMake
import PyProof.Draws
import KE.GoesEnum
import HandS.Iter
import HandS.New0
import PySem.Challenge.RW_formsmith_k16_whole_there_and_back
import HandS.Defaults
import HandS.Head0
import HandS.Head1
import HandS.Head2
import HandS.HeadEnd
import HandS.HeadHook1
import HandS.HeadHook2
import HandS.Style
import HandS.ReplaceDef
set_option Elab.async false
set_option linter.all false
set_option maxRecDepth 100000

section
set_option maxHeartbeats 4000000
/-! M1: texts as lists of codes, the five ways: what they code to, stretch, reading. Plain Lean. -/
namespace K16
open PySem SX PySem.NumText
abbrev T := List Nat
/-! ### signs -/
def SG : T := 10 :: ((List.range 5).map (· + 32) ++ (List.range 89).map (· + 38))
def ALN : T := (List.range 26).map (· + 97) ++ (List.range 26).map (· + 65) ++ (List.range 10).map (· + 48)
def FIG : T := (List.range 10).map (· + 48)
theorem mem_SG {c : Nat} : c ∈ SG ↔ c = 10 ∨ (32 ≤ c ∧ c ≤ 126 ∧ c ≠ 37) := by
  unfold SG
  simp only [List.mem_cons, List.mem_append, List.mem_map, List.mem_range]
  constructor
  · rintro (h | ⟨a, h, e⟩ | ⟨a, h, e⟩)
    · exact .inl h
    · right; omega
    · right; omega
  · rintro (h | ⟨h1, h2, h3⟩)
    · exact .inl h
    · by_cases h : c ≤ 36
      · exact .inr (.inl ⟨c - 32, by omega, by omega⟩)
      · exact .inr (.inr ⟨c - 38, by omega, by omega⟩)
theorem mem_FIG {c : Nat} : c ∈ FIG ↔ 48 ≤ c ∧ c ≤ 57 := by
  unfold FIG
  simp only [List.mem_map, List.mem_range]
  constructor
  · rintro ⟨a, h, e⟩; omega
  · intro h; exact ⟨c - 48, by omega, by omega⟩
theorem mem_ALN {c : Nat} : c ∈ ALN ↔ (97 ≤ c ∧ c ≤ 122) ∨ (65 ≤ c ∧ c ≤ 90) ∨ (48 ≤ c ∧ c ≤ 57) := by
  unfold ALN
  simp only [List.mem_append, List.mem_map, List.mem_range]
  constructor
  · rintro ((⟨a, h, e⟩ | ⟨a, h, e⟩) | ⟨a, h, e⟩) <;> omega
  · rintro (h | h | h)
    · exact .inl (.inl ⟨c - 97, by omega, by omega⟩)
    · exact .inl (.inr ⟨c - 65, by omega, by omega⟩)
    · exact .inr ⟨c - 48, by omega, by omega⟩
def allSG (t : T) : Bool := t.all (fun c => decide (c ∈ SG))
theorem allSG_iff {t : T} : allSG t = true ↔ ∀ c ∈ t, c ∈ SG := by
  unfold allSG; simp [List.all_eq_true]
def withoutL (some : T) : T := SG.filter (fun c => !decide (c ∈ some))
theorem mem_without {c : Nat} {s : T} : c ∈ withoutL s ↔ c ∈ SG ∧ c ∉ s := by
  unfold withoutL; simp [List.mem_filter]
/-! ### ways and values -/
inductive Way where
  | word | number | quoted | plain | line
  deriving DecidableEq, Repr
inductive Vl where
  | num (i : Int)
  | txt (t : T)
  deriving DecidableEq
def shI (i : Int) : T := if i < 0 then 45 :: TL.numL i.natAbs else TL.numL i.natAbs
theorem str_shI (i : Int) : Str.ofString (toString i) = S (shI i) := by
  unfold shI
  cases i with
  | ofNat n =>
    rw [if_neg (by simp)]
    exact num_S n
  | negSucc n =>
    rw [if_pos (Int.negSucc_lt_zero n)]
    refine TL.ext_tl ?_
    have e : toString (Int.negSucc n) = "-" ++ toString (((n + 1 : Nat)) : Int) := rfl
    rw [e]
    have e2 : TL.tl (Str.ofString ("-" ++ toString (((n + 1 : Nat)) : Int))) = 45 :: TL.tl (Str.ofString (toString (((n + 1 : Nat)) : Int))) := by
      rw [TL.tl_ofString, TL.tl_ofString, String.toList_append, List.map_append]
      rfl
    rw [e2, TL.tl_num]
    rfl
theorem shI_ne (i : Int) : shI i ≠ [] := by
  unfold shI; split
  · simp
  · exact TL.numL_ne _
def intOf (t : T) : Int := (intText? (S t)).getD 0
def fits : Way → Vl → Bool
  | .word, .txt t => decide (1 ≤ t.length) && decide (t.length ≤ 40) && t.all (fun c => decide (c ∈ ALN))
  | .number, .num i => decide (-(10 : Int) ^ 30 < i) && decide (i < (10 : Int) ^ 30)
  | .quoted, .txt t => decide (t.length ≤ 400) && allSG t
  | .plain, .txt t => decide (t.length ≤ 400) && allSG t
  | .line, .txt t => decide (t.length ≤ 400) && allSG t
  | _, _ => false
def escQ (c : Nat) : T := if c = 94 then [94, 94] else if c = 34 then [94, 113] else if c = 10 then [94, 110] else [c]
def escP (c : Nat) : T := if c = 126 then [126, 126] else if c = 60 then [126, 108] else if c = 62 then [126, 103] else if c = 38 then [126, 97] else if c = 124 then [126, 98] else if c = 10 then [126, 110] else [c]
def escL (c : Nat) : T := if c = 126 then [126, 126] else if c = 10 then [126, 110] else [c]
def marked : Way → Vl → T
  | .word, .txt t => t
  | .number, .num i => shI i
  | .quoted, .txt t => 34 :: (t.flatMap escQ ++ [34])
  | .plain, .txt t => t.flatMap escP
  | .line, .txt t => t.flatMap escL
  | _, _ => []
def ends : Way → T
  | .word => withoutL ALN
  | .number => withoutL FIG
  | .quoted => withoutL []
  | .plain => [10, 38, 60, 62, 124]
  | .line => [10]
def begins : Way → T
  | .word => withoutL (ends .word)
  | .number => 45 :: FIG
  | .quoted => [34]
  | .plain => withoutL (ends .plain)
  | .line => withoutL (ends .line)
def isVoid : Way → Bool
  | .plain => true
  | .line => true
  | _ => false
/-- up to the first that p lets not -/
def spn (p : Nat → Bool) : T → T × T
  | [] => ([], [])
  | c :: r => if p c then (c :: (spn p r).1, (spn p r).2) else ([], c :: r)
theorem spn_app (p : Nat → Bool) : ∀ s : T, s = (spn p s).1 ++ (spn p s).2
  | [] => rfl
  | c :: r => by
    unfold spn; split
    · show c :: r = c :: ((spn p r).1 ++ (spn p r).2)
      rw [← spn_app p r]
    · rfl
theorem spn_all (p : Nat → Bool) : ∀ s : T, ∀ c ∈ (spn p s).1, p c = true
  | [], c, h => by simp [spn] at h
  | d :: r, c, h => by
    unfold spn at h; split at h
    · rename_i hp
      rcases List.mem_cons.mp h with e | h
      · rw [e]; exact hp
      · exact spn_all p r c h
    · simp at h
theorem spn_stop (p : Nat → Bool) : ∀ {a r : T}, (∀ c ∈ a, p c = true) → (∀ c r', r = c :: r' → p c = false) → spn p (a ++ r) = (a, r)
  | [], r, _, h => by
    cases r with
    | nil => rfl
    | cons c r' =>
      show spn p (c :: r') = _
      unfold spn
      rw [if_neg (by rw [h c r' rfl]; simp)]
  | d :: a, r, ha, h => by
    show spn p (d :: (a ++ r)) = _
    unfold spn
    rw [if_pos (ha d (List.mem_cons_self ..)), spn_stop p (fun c hc => ha c (List.mem_cons_of_mem _ hc)) h]
def stretch : Way → T → Option (T × T)
  | .number, 45 :: r => some (45 :: (spn (fun c => decide (c ∈ FIG)) r).1, (spn (fun c => decide (c ∈ FIG)) r).2)
  | .number, s => some (spn (fun c => decide (c ∈ FIG)) s)
  | .quoted, 34 :: r => match (spn (fun c => decide (c ≠ 34)) r).2 with
    | [] => none
    | d :: r' => some (34 :: ((spn (fun c => decide (c ≠ 34)) r).1 ++ [d]), r')
  | .quoted, _ => none
  | w, s => some (spn (fun c => !decide (c ∈ ends w)) s)
theorem stretch_app {w : Way} {s st r : T} (h : stretch w s = some (st, r)) : s = st ++ r := by
  unfold stretch at h
  split at h
  · injection h with h; injection h with h1 h2
    rw [← h1, ← h2]
    rename_i r'
    show 45 :: r' = 45 :: (_ ++ _)
    rw [← spn_app]
  · injection h with h
    have := spn_app (fun c => decide (c ∈ FIG)) s
    rw [h] at this; exact this
  · rename_i r'
    split at h
    · cases h
    · rename_i d r'' e
      injection h with h; injection h with h1 h2
      rw [← h1, ← h2]
      show 34 :: r' = 34 :: ((_ ++ [d]) ++ r'')
      rw [List.append_assoc]
      show 34 :: r' = 34 :: ((spn (fun c => decide (c ≠ 34)) r').1 ++ (d :: r''))
      rw [← e, ← spn_app]
  · cases h
  · injection h with h
    rename_i w' s' _ _ _ _
    have := spn_app (fun c => !decide (c ∈ ends w)) s
    rw [h] at this; exact this
/-- told: what a mark and a sign behind it mean -/
def unm (mark : Nat) (told : List (Nat × Nat)) : T → Option T
  | [] => some []
  | c :: r => if c = mark then (match r with
      | [] => none
      | d :: r' => match told.lookup d with
        | none => none
        | some x => (unm mark told r').map (x :: ·)) else (unm mark told r).map (c :: ·)
def toldQ : List (Nat × Nat) := [(94, 94), (113, 34), (110, 10)]
def toldP : List (Nat × Nat) := [(126, 126), (108, 60), (103, 62), (97, 38), (98, 124), (110, 10)]
def toldL : List (Nat × Nat) := [(126, 126), (110, 10)]
def lstripM : T → T
  | 45 :: r => lstripM r
  | s => s
def meant : Way → T → Option Vl
  | .word, st => some (.txt st)
  | .number, st => if lstripM st = [] ∨ 30 < (lstripM st).length then none else some (.num (intOf st))
  | .quoted, st => (unm 94 toldQ (st.drop 1).dropLast).map .txt
  | .plain, st => (unm 126 toldP st).map .txt
  | .line, st => (unm 126 toldL st).map .txt
def readW (w : Way) (s : T) : Option (Vl × T) := match stretch w s with
  | none => none
  | some (st, r) => match meant w st with
    | none => none
    | some v => if fits w v = true ∧ marked w v = st then some (v, r) else none
theorem readW_sound {w : Way} {s r : T} {v : Vl} (h : readW w s = some (v, r)) : fits w v = true ∧ s = marked w v ++ r := by
  unfold readW at h
  split at h
  · cases h
  · rename_i st r' e
    split at h
    · cases h
    · rename_i v' e'
      split at h
      · rename_i hc
        injection h with h; injection h with h1 h2
        rw [← h1, ← h2, hc.2]
        exact ⟨hc.1, stretch_app e⟩
      · cases h
/-! ### what is coded is read again -/
theorem unm_esc {mark : Nat} {told : List (Nat × Nat)} {esc : Nat → T} (he : ∀ c, (esc c = [c] ∧ c ≠ mark) ∨ ∃ d, esc c = [mark, d] ∧ told.lookup d = some c) : ∀ t : T, unm mark told (t.flatMap esc) = some t
  | [] => by simp [unm]
  | c :: r => by
    have ih := unm_esc he r
    rw [List.flatMap_cons]
    rcases he c with ⟨e, hn⟩ | ⟨d, e, hl⟩
    · rw [e]
      show unm mark told (c :: (r.flatMap esc)) = _
      unfold unm
      rw [if_neg hn, ih]; rfl
    · rw [e]
      show unm mark told (mark :: d :: (r.flatMap esc)) = _
      unfold unm
      rw [if_pos rfl]
      simp only [hl, ih]
      rfl
theorem escQ_ok (c : Nat) : (escQ c = [c] ∧ c ≠ 94) ∨ ∃ d, escQ c = [94, d] ∧ toldQ.lookup d = some c := by
  unfold escQ
  by_cases h1 : c = 94
  · subst h1; exact .inr ⟨94, rfl, rfl⟩
  · by_cases h2 : c = 34
    · subst h2; exact .inr ⟨113, rfl, rfl⟩
    · by_cases h3 : c = 10
      · subst h3; exact .inr ⟨110, rfl, rfl⟩
      · left; rw [if_neg h1, if_neg h2, if_neg h3]; exact ⟨rfl, h1⟩
theorem escP_ok (c : Nat) : (escP c = [c] ∧ c ≠ 126) ∨ ∃ d, escP c = [126, d] ∧ toldP.lookup d = some c := by
  unfold escP
  by_cases h1 : c = 126
  · subst h1; exact .inr ⟨126, rfl, rfl⟩
  by_cases h2 : c = 60
  · subst h2; exact .inr ⟨108, rfl, rfl⟩
  by_cases h3 : c = 62
  · subst h3; exact .inr ⟨103, rfl, rfl⟩
  by_cases h4 : c = 38
  · subst h4; exact .inr ⟨97, rfl, rfl⟩
  by_cases h5 : c = 124
  · subst h5; exact .inr ⟨98, rfl, rfl⟩
  by_cases h6 : c = 10
  · subst h6; exact .inr ⟨110, rfl, rfl⟩
  left; rw [if_neg h1, if_neg h2, if_neg h3, if_neg h4, if_neg h5, if_neg h6]; exact ⟨rfl, h1⟩
theorem escL_ok (c : Nat) : (escL c = [c] ∧ c ≠ 126) ∨ ∃ d, escL c = [126, d] ∧ toldL.lookup d = some c := by
  unfold escL
  by_cases h1 : c = 126
  · subst h1; exact .inr ⟨126, rfl, rfl⟩
  by_cases h2 : c = 10
  · subst h2; exact .inr ⟨110, rfl, rfl⟩
  left; rw [if_neg h1, if_neg h2]; exact ⟨rfl, h1⟩
theorem escQ_no (c : Nat) : ∀ d ∈ escQ c, d ≠ 34 := by
  unfold escQ
  intro d hd
  split at hd
  · simp at hd; omega
  · split at hd
    · simp at hd; omega
    · split at hd
      · simp at hd; omega
      · simp at hd; omega
theorem escP_no (c : Nat) : ∀ d ∈ escP c, d ∉ ends .plain := by
  show ∀ d ∈ escP c, d ∉ [10, 38, 60, 62, 124]
  unfold escP
  by_cases h1 : c = 126
  · subst h1; decide
  by_cases h2 : c = 60
  · subst h2; decide
  by_cases h3 : c = 62
  · subst h3; decide
  by_cases h4 : c = 38
  · subst h4; decide
  by_cases h5 : c = 124
  · subst h5; decide
  by_cases h6 : c = 10
  · subst h6; decide
  rw [if_neg h1, if_neg h2, if_neg h3, if_neg h4, if_neg h5, if_neg h6]
  intro d hd
  rw [List.mem_singleton.mp hd]
  simp only [List.mem_cons, List.not_mem_nil, or_false, not_or]
  exact ⟨h6, h4, h2, h3, h5⟩
theorem escL_no (c : Nat) : ∀ d ∈ escL c, d ∉ ends .line := by
  show ∀ d ∈ escL c, d ∉ [10]
  unfold escL
  by_cases h1 : c = 126
  · subst h1; decide
  by_cases h2 : c = 10
  · subst h2; decide
  rw [if_neg h1, if_neg h2]
  intro d hd
  rw [List.mem_singleton.mp hd]
  simp only [List.mem_cons, List.not_mem_nil, or_false]
  exact h2
theorem flat_no {esc : Nat → T} {p : Nat → Prop} (h : ∀ c, ∀ d ∈ esc c, p d) (t : T) : ∀ d ∈ t.flatMap esc, p d := fun d hd => by
  obtain ⟨c, _, hc⟩ := List.mem_flatMap.mp hd
  exact h c d hc
theorem lstripM_numL (n : Nat) : lstripM (TL.numL n) = TL.numL n := by
  have h := TL.numL_digits n
  cases e : TL.numL n with
  | nil => rfl
  | cons c r =>
    rw [e] at h
    have := h c (List.mem_cons_self ..)
    unfold lstripM
    split
    · rename_i q; injection q with q1 q2; omega
    · rfl
theorem intOf_shI {i : Int} (h1 : -(10 : Int) ^ 30 < i) (h2 : i < (10 : Int) ^ 30) : intOf (shI i) = i := by
  have hl : (TL.numL i.natAbs).length ≤ 30 := TL.numL_len (by decide) (by omega)
  unfold shI
  split
  · rename_i hneg
    unfold intOf
    rw [intText_neg (x := S (45 :: TL.numL i.natAbs)) rfl (TL.numL_digits _) (TL.numL_ne _) (by rw [S_len, List.length_cons]; omega), TL.numL_val]
    simp only [Option.getD_some]
    omega
  · unfold intOf
    rw [intText_digits (x := S (TL.numL i.natAbs)) (TL.numL_digits _) (TL.numL_ne _) (by rw [S_len]; omega), TL.numL_val]
    simp only [Option.getD_some]
    omega
theorem readW_complete {w : Way} {v : Vl} {r : T} (hf : fits w v = true) (hr : ∀ c r', r = c :: r' → c ∈ ends w) : readW w (marked w v ++ r) = some (v, r) := by
  have hnot : ∀ c r', r = c :: r' → (!decide (c ∈ ends w)) = false := fun c r' e => by simp [hr c r' e]
  suffices hs : stretch w (marked w v ++ r) = some (marked w v, r) ∧ meant w (marked w v) = some v by
    unfold readW
    rw [hs.1]
    simp only [hs.2, hf, and_self, if_true]
  cases w with
  | word =>
    cases v with
    | num i => simp [fits] at hf
    | txt t =>
      simp [fits] at hf
      refine ⟨?_, rfl⟩
      show some (spn _ (t ++ r)) = _
      rw [spn_stop _ (fun c hc => ?_) hnot]; rfl
      have := hf.2 c hc
      simp [ends, mem_without, this]
  | number =>
    cases v with
    | txt t => simp [fits] at hf
    | num i =>
      simp [fits] at hf
      have hl : (TL.numL i.natAbs).length ≤ 30 := TL.numL_len (by decide) (by omega)
      have hd : ∀ c ∈ TL.numL i.natAbs, decide (c ∈ FIG) = true := fun c hc => by simp [mem_FIG, TL.numL_digits _ c hc]
      have hn : ∀ c r', r = c :: r' → decide (c ∈ FIG) = false := fun c r' e => by
        have := hr c r' e
        simp [ends, mem_without] at this
        simp [this.2]
      have hi : intOf (shI i) = i := intOf_shI (by omega) (by omega)
      show stretch .number (shI i ++ r) = some (shI i, r) ∧ meant .number (shI i) = some (.num i)
      constructor
      · unfold shI
        split
        · show some (45 :: (spn (fun c => decide (c ∈ FIG)) (TL.numL i.natAbs ++ r)).1, (spn (fun c => decide (c ∈ FIG)) (TL.numL i.natAbs ++ r)).2) = _
          rw [spn_stop _ hd hn]
        · have e : stretch .number (TL.numL i.natAbs ++ r) = some (spn (fun c => decide (c ∈ FIG)) (TL.numL i.natAbs ++ r)) := by
            have hne := TL.numL_ne i.natAbs
            cases e : TL.numL i.natAbs with
            | nil => exact absurd e hne
            | cons c q =>
              have := TL.numL_digits i.natAbs c (by rw [e]; exact List.mem_cons_self ..)
              unfold stretch
              split
              · rename_i heq
                have e1 := (List.cons.inj heq).1
                omega
              · rfl
              all_goals first | (rename_i q; cases q; done) | (exfalso; simp_all; done)
          rw [e, spn_stop _ hd hn]
      · have e : lstripM (shI i) = TL.numL i.natAbs := by
          unfold shI
          split
          · show lstripM (TL.numL i.natAbs) = _
            exact lstripM_numL _
          · exact lstripM_numL _
        show (if lstripM (shI i) = [] ∨ 30 < (lstripM (shI i)).length then none else some (Vl.num (intOf (shI i)))) = _
        rw [e, if_neg (by intro h; rcases h with h | h; exact TL.numL_ne _ h; omega), hi]
  | quoted =>
    cases v with
    | num i => simp [fits] at hf
    | txt t =>
      have h34 : ∀ c ∈ t.flatMap escQ, decide (c ≠ 34) = true := fun c hc => by simpa using flat_no escQ_no t c hc
      constructor
      · show (match (spn (fun c => decide (c ≠ 34)) ((t.flatMap escQ ++ [34]) ++ r)).2 with
          | [] => none
          | d :: r' => some (34 :: ((spn (fun c => decide (c ≠ 34)) ((t.flatMap escQ ++ [34]) ++ r)).1 ++ [d]), r')) = _
        rw [List.append_assoc, spn_stop (a := t.flatMap escQ) (r := [34] ++ r) _ h34 (fun c r' e => by
          injection e with e1 e2; subst e1; simp)]
        rfl
      · show (unm 94 toldQ (t.flatMap escQ ++ [34]).dropLast).map Vl.txt = _
        rw [List.dropLast_concat, unm_esc escQ_ok]; rfl
  | plain =>
    cases v with
    | num i => simp [fits] at hf
    | txt t =>
      constructor
      · show some (spn _ (t.flatMap escP ++ r)) = _
        rw [spn_stop _ (fun c hc => ?_) hnot]; rfl
        simpa using flat_no escP_no t c hc
      · show (unm 126 toldP (t.flatMap escP)).map Vl.txt = _
        rw [unm_esc escP_ok]; rfl
  | line =>
    cases v with
    | num i => simp [fits] at hf
    | txt t =>
      constructor
      · show some (spn _ (t.flatMap escL ++ r)) = _
        rw [spn_stop _ (fun c hc => ?_) hnot]; rfl
        simpa using flat_no escL_no t c hc
      · show (unm 126 toldL (t.flatMap escL)).map Vl.txt = _
        rw [unm_esc escL_ok]; rfl
end K16
end

section
set_option maxHeartbeats 4000000
/-! M2: flat forms, fills, what they spell; begins; clear; reading back. Plain Lean. -/
namespace K16
/-- a node of a flat form -/
inductive Node where
  | text (t : T)
  | place (path : List T) (w : Way)
  | loop (name : T) (path : List T) (body : List Node) (btw : T)
  | choice (path : List T) (yes no : List Node)
/-- what stands at a node -/
inductive Fill where
  | val (v : Vl)
  | rounds (rs : List (List Fill))
  | side (b : Bool) (fs : List Fill)
abbrev Fo := T × Bool
def join (btw : T) : List T → T
  | [] => []
  | [a] => a
  | a :: b :: r => a ++ (btw ++ join btw (b :: r))
mutual
def spN : Node → Fill → T
  | .place _ w, .val v => marked w v
  | .loop _ _ b btw, .rounds rs => join btw (rs.map fun r => spL b r)
  | .choice _ y n, .side c fs => if c then spL y fs else spL n fs
  | _, _ => []
def spL : List Node → List Fill → T
  | [], _ => []
  | .text t :: ns, fs => t ++ spL ns fs
  | n :: ns, f :: fs => spN n f ++ spL ns fs
  | _ :: _, [] => []
end
-- a fill of nodes
mutual
def okN : Node → Fill → Prop
  | .place _ w, .val v => fits w v = true
  | .loop _ _ b _, .rounds rs => ∀ r ∈ rs, okL b r
  | .choice _ y n, .side c fs => if c then okL y fs else okL n fs
  | _, _ => False
def okL : List Node → List Fill → Prop
  | [], [] => True
  | [], _ :: _ => False
  | .text _ :: ns, fs => okL ns fs
  | n :: ns, f :: fs => okN n f ∧ okL ns fs
  | _ :: _, [] => False
end
/-! ### begins -/
def united (a b : T) : T := SG.filter (fun c => decide (c ∈ a) || decide (c ∈ b))
theorem mem_united {a b : T} {c : Nat} : c ∈ united a b ↔ c ∈ SG ∧ (c ∈ a ∨ c ∈ b) := by
  unfold united; simp [List.mem_filter]
mutual
def bgN : Node → Fo
  | .text t => (t.take 1, false)
  | .place _ w => (begins w, isVoid w)
  | .loop _ _ b btw => (if (bgL b []).2 then united (bgL b []).1 (btw.take 1) else (bgL b []).1, true)
  | .choice _ y n => (united (bgL y []).1 (bgL n []).1, (bgL y []).2 || (bgL n []).2)
/-- found so far -/
def bgL : List Node → T → Fo
  | [], found => (found, true)
  | n :: ns, found => if (bgN n).2 then bgL ns (united found (bgN n).1) else (united found (bgN n).1, false)
end
/-! ### clear -/
def sideB (ns : List Node) (fo : Fo) : Fo := if (bgL ns []).2 then (united (bgL ns []).1 fo.1, fo.2) else ((bgL ns []).1, false)
def againB (b : List Node) (btw : T) : T := if btw = [] then (bgL b []).1 else btw.take 1
def withinL (b : List Node) (btw : T) (fo : Fo) : Fo := (united (againB b btw) fo.1, fo.2)
def common (a b : T) : Bool := a.any (fun c => decide (c ∈ b))
mutual
def clN : Node → Fo → Bool
  | .text _, _ => true
  | .place _ w, fo => fo.1.all (fun c => decide (c ∈ ends w))
  | .loop _ _ b btw, fo => if (bgL b []).2 || common ((bgL b []).1 ++ btw.take 1) fo.1 then false else clL b (withinL b btw fo)
  | .choice _ y n, fo => if common (sideB y fo).1 (sideB n fo).1 || ((sideB y fo).2 && (sideB n fo).2) then false else clL y fo && clL n fo
def clL : List Node → Fo → Bool
  | [], _ => true
  | n :: ns, fo => clN n (sideB ns fo) && clL ns fo
end
/-! ### reading -/
def stripP : T → T → Option T
  | [], s => some s
  | c :: r, d :: s => if d = c then stripP r s else none
  | _ :: _, [] => none
def here (s : T) (signs : T) (e : Bool) : Bool := match s with
  | [] => e
  | c :: _ => decide (c ∈ signs)
def rdLoop (body : T → Option (List Fill × T)) (btw again : T) : Nat → T → Option (List (List Fill) × T)
  | 0, _ => none
  | k + 1, s => if here s again false then (match stripP btw s with
    | none => none
    | some s1 => match body s1 with
      | none => none
      | some (f, s2) => (rdLoop body btw again k s2).map fun q => (f :: q.1, q.2)) else some ([], s)
mutual
def rdN : Node → Fo → T → Option (Fill × T)
  | .text _, _, _ => none
  | .place _ w, _, s => (readW w s).map fun q => (.val q.1, q.2)
  | .loop _ _ b btw, fo, s => if here s (bgL b []).1 false then (match rdL b (withinL b btw fo) s with
    | none => none
    | some (f, s2) => (rdLoop (fun s => rdL b (withinL b btw fo) s) btw (againB b btw) (s2.length + 1) s2).map fun q => (.rounds (f :: q.1), q.2)) else some (.rounds [], s)
  | .choice _ y n, fo, s => if here s (sideB y fo).1 (sideB y fo).2 then (rdL y fo s).map fun q => (.side true q.1, q.2)
    else if here s (sideB n fo).1 (sideB n fo).2 then (rdL n fo s).map fun q => (.side false q.1, q.2) else none
def rdL : List Node → Fo → T → Option (List Fill × T)
  | [], _, s => some ([], s)
  | .text t :: ns, fo, s => match stripP t s with
    | none => none
    | some s1 => rdL ns fo s1
  | n :: ns, fo, s => match rdN n (sideB ns fo) s with
    | none => none
    | some (f, s1) => (rdL ns fo s1).map fun q => (f :: q.1, q.2)
end
/-- the fill of a clear form whose text it is -/
def readBack (form : List Node) (s : T) : Option (List Fill) := match rdL form ([], true) s with
  | some (fs, []) => some fs
  | _ => none
theorem stripP_app {t : T} : ∀ {s r : T}, stripP t s = some r → s = t ++ r := by
  induction t with
  | nil => intro s r h; simp [stripP] at h; simp [h]
  | cons c t ih =>
    intro s r h
    cases s with
    | nil => simp [stripP] at h
    | cons d s =>
      unfold stripP at h
      split at h
      · rename_i e
        rw [e, ih h]; rfl
      · cases h
theorem stripP_self : ∀ (t r : T), stripP t (t ++ r) = some r
  | [], r => rfl
  | c :: t, r => by
    show (if c = c then stripP t (t ++ r) else none) = _
    rw [if_pos rfl, stripP_self t r]
theorem join_cons (btw a : T) (r : List T) : join btw (a :: r) = a ++ (r.map (fun x => btw ++ x)).flatten := by
  induction r generalizing a with
  | nil => simp [join]
  | cons b r ih =>
    show a ++ (btw ++ join btw (b :: r)) = _
    rw [ih b]
    simp
/-! ### soundness -/
theorem rdLoop_sound {b : List Node} {fo : Fo} {btw again : T} (ih : ∀ s fs r, rdL b fo s = some (fs, r) → okL b fs ∧ s = spL b fs ++ r) :
    ∀ (k : Nat) (s : T) (rs : List (List Fill)) (r : T), rdLoop (fun s => rdL b fo s) btw again k s = some (rs, r) → (∀ q ∈ rs, okL b q) ∧ s = (rs.map fun q => btw ++ spL b q).flatten ++ r
  | 0, s, rs, r, h => by simp [rdLoop] at h
  | k + 1, s, rs, r, h => by
    unfold rdLoop at h
    split at h
    · split at h
      · cases h
      · rename_i s1 e1
        split at h
        · cases h
        · rename_i f s2 e2
          cases e3 : rdLoop (fun s => rdL b fo s) btw again k s2 with
          | none => rw [e3] at h; cases h
          | some q =>
            obtain ⟨q1, q2⟩ := q
            rw [e3] at h
            injection h with h; injection h with h1 h2
            subst h1 h2
            obtain ⟨o1, a1⟩ := ih s1 f s2 e2
            obtain ⟨o2, a2⟩ := rdLoop_sound ih k s2 q1 q2 e3
            refine ⟨fun q hq => ?_, ?_⟩
            · rcases List.mem_cons.mp hq with e | hq
              · rw [e]; exact o1
              · exact o2 q hq
            · rw [stripP_app e1, a1, a2]
              simp
    · injection h with h; injection h with h1 h2
      subst h1 h2
      simp
mutual
theorem rdN_sound : ∀ (n : Node) (fo : Fo) (s : T) (f : Fill) (r : T), rdN n fo s = some (f, r) → okN n f ∧ s = spN n f ++ r
  | .text _, _, _, _, _, h => by simp [rdN] at h
  | .place _ w, fo, s, f, r, h => by
    unfold rdN at h
    cases e : readW w s with
    | none => rw [e] at h; cases h
    | some q =>
      obtain ⟨v, r'⟩ := q
      rw [e] at h
      injection h with h; injection h with h1 h2
      subst h1 h2
      unfold okN spN
      exact readW_sound e
  | .loop _ _ b btw, fo, s, f, r, h => by
    have ih := rdL_sound b (withinL b btw fo)
    unfold rdN at h
    split at h
    · split at h
      · cases h
      · rename_i f1 s2 e1
        cases e3 : rdLoop (fun s => rdL b (withinL b btw fo) s) btw (againB b btw) (s2.length + 1) s2 with
        | none => rw [e3] at h; cases h
        | some q =>
          obtain ⟨q1, q2⟩ := q
          rw [e3] at h
          injection h with h; injection h with h1 h2
          subst h1 h2
          obtain ⟨o1, a1⟩ := ih s f1 s2 e1
          obtain ⟨o2, a2⟩ := rdLoop_sound ih _ _ _ _ e3
          unfold okN spN
          refine ⟨fun q hq => ?_, ?_⟩
          · rcases List.mem_cons.mp hq with e | hq
            · rw [e]; exact o1
            · exact o2 q hq
          · rw [List.map_cons, join_cons, a1, a2, List.map_map, List.append_assoc]
            rfl
    · injection h with h; injection h with h1 h2
      subst h1 h2
      unfold okN spN
      exact ⟨fun q hq => by simp at hq, by simp [join]⟩
  | .choice _ y n, fo, s, f, r, h => by
    have ihy := rdL_sound y fo
    have ihn := rdL_sound n fo
    unfold rdN at h
    split at h
    · cases e : rdL y fo s with
      | none => rw [e] at h; cases h
      | some q =>
        obtain ⟨v, r'⟩ := q
        rw [e] at h
        injection h with h; injection h with h1 h2
        subst h1 h2
        unfold okN spN
        exact ihy s v r' e
    · split at h
      · cases e : rdL n fo s with
        | none => rw [e] at h; cases h
        | some q =>
          obtain ⟨v, r'⟩ := q
          rw [e] at h
          injection h with h; injection h with h1 h2
          subst h1 h2
          unfold okN spN
          exact ihn s v r' e
      · cases h
theorem rdL_sound : ∀ (ns : List Node) (fo : Fo) (s : T) (fs : List Fill) (r : T), rdL ns fo s = some (fs, r) → okL ns fs ∧ s = spL ns fs ++ r
  | [], fo, s, fs, r, h => by
    unfold rdL at h
    injection h with h; injection h with h1 h2
    subst h1 h2
    unfold okL spL
    exact ⟨trivial, rfl⟩
  | .text t :: ns, fo, s, fs, r, h => by
    have ih := rdL_sound ns fo
    unfold rdL at h
    split at h
    · cases h
    · rename_i s1 e1
      obtain ⟨o, a⟩ := ih _ _ _ h
      unfold okL spL
      exact ⟨o, by rw [stripP_app e1, a, List.append_assoc]⟩
  | .place p w :: ns, fo, s, fs, r, h => by
    have ih := rdL_sound ns fo
    have ihn := rdN_sound (.place p w) (sideB ns fo)
    unfold rdL at h
    split at h
    · cases h
    · rename_i f s1 e1
      cases e : rdL ns fo s1 with
      | none => rw [e] at h; cases h
      | some q =>
        obtain ⟨q1, q2⟩ := q
        rw [e] at h
        injection h with h; injection h with h1 h2
        subst h1 h2
        obtain ⟨o1, a1⟩ := ihn _ _ _ e1
        obtain ⟨o2, a2⟩ := ih _ _ _ e
        unfold okL spL
        exact ⟨⟨o1, o2⟩, by rw [a1, a2, List.append_assoc]⟩
  | .loop a p b c :: ns, fo, s, fs, r, h => by
    have ih := rdL_sound ns fo
    have ihn := rdN_sound (.loop a p b c) (sideB ns fo)
    unfold rdL at h
    split at h
    · cases h
    · rename_i f s1 e1
      cases e : rdL ns fo s1 with
      | none => rw [e] at h; cases h
      | some q =>
        obtain ⟨q1, q2⟩ := q
        rw [e] at h
        injection h with h; injection h with h1 h2
        subst h1 h2
        obtain ⟨o1, a1⟩ := ihn _ _ _ e1
        obtain ⟨o2, a2⟩ := ih _ _ _ e
        unfold okL spL
        exact ⟨⟨o1, o2⟩, by rw [a1, a2, List.append_assoc]⟩
  | .choice p y n :: ns, fo, s, fs, r, h => by
    have ih := rdL_sound ns fo
    have ihn := rdN_sound (.choice p y n) (sideB ns fo)
    unfold rdL at h
    split at h
    · cases h
    · rename_i f s1 e1
      cases e : rdL ns fo s1 with
      | none => rw [e] at h; cases h
      | some q =>
        obtain ⟨q1, q2⟩ := q
        rw [e] at h
        injection h with h; injection h with h1 h2
        subst h1 h2
        obtain ⟨o1, a1⟩ := ihn _ _ _ e1
        obtain ⟨o2, a2⟩ := ih _ _ _ e
        unfold okL spL
        exact ⟨⟨o1, o2⟩, by rw [a1, a2, List.append_assoc]⟩
end
end K16
end

section
set_option maxHeartbeats 4000000
/-! M3: a clear form reads what it spells. Plain Lean. -/
namespace K16
theorem spL_place {p : List T} {w : Way} {ns : List Node} {f : Fill} {fs : List Fill} : spL (.place p w :: ns) (f :: fs) = spN (.place p w) f ++ spL ns fs := by
  rw [spL]; intro t h; cases h
theorem spL_loop {a : T} {p : List T} {b : List Node} {c : T} {ns : List Node} {f : Fill} {fs : List Fill} : spL (.loop a p b c :: ns) (f :: fs) = spN (.loop a p b c) f ++ spL ns fs := by
  rw [spL]; intro t h; cases h
theorem spL_choice {p : List T} {y n ns : List Node} {f : Fill} {fs : List Fill} : spL (.choice p y n :: ns) (f :: fs) = spN (.choice p y n) f ++ spL ns fs := by
  rw [spL]; intro t h; cases h
mutual
def vaN : Node → Prop
  | .text t => t ≠ [] ∧ allSG t = true
  | .place _ _ => True
  | .loop _ _ b btw => vaL b ∧ allSG btw = true
  | .choice _ y n => vaL y ∧ vaL n
def vaL : List Node → Prop
  | [] => True
  | n :: ns => vaN n ∧ vaL ns
end
/-! ### all signs -/
theorem allSG_app {a b : T} : allSG (a ++ b) = true ↔ allSG a = true ∧ allSG b = true := by
  simp only [allSG_iff]
  constructor
  · intro h; exact ⟨fun c hc => h c (List.mem_append_left _ hc), fun c hc => h c (List.mem_append_right _ hc)⟩
  · rintro ⟨h1, h2⟩ c hc
    rcases List.mem_append.mp hc with hc | hc
    · exact h1 c hc
    · exact h2 c hc
theorem allSG_nil : allSG [] = true := rfl
theorem allSG_cons {c : Nat} {r : T} : allSG (c :: r) = true ↔ c ∈ SG ∧ allSG r = true := by
  simp only [allSG_iff, List.mem_cons, forall_eq_or_imp]
theorem flat_SG {esc : Nat → T} (h : ∀ c, c ∈ SG → allSG (esc c) = true) {t : T} (ht : allSG t = true) : allSG (t.flatMap esc) = true := by
  rw [allSG_iff] at *
  intro d hd
  obtain ⟨c, hc, hd⟩ := List.mem_flatMap.mp hd
  exact allSG_iff.mp (h c (ht c hc)) d hd
theorem escQ_SG (c : Nat) (h : c ∈ SG) : allSG (escQ c) = true := by
  unfold escQ
  split
  · decide
  split
  · decide
  split
  · decide
  simp [allSG, h]
theorem escP_SG (c : Nat) (h : c ∈ SG) : allSG (escP c) = true := by
  unfold escP
  repeat (split; · decide)
  simp [allSG, h]
theorem escL_SG (c : Nat) (h : c ∈ SG) : allSG (escL c) = true := by
  unfold escL
  repeat (split; · decide)
  simp [allSG, h]
theorem marked_SG {w : Way} {v : Vl} (h : fits w v = true) : allSG (marked w v) = true := by
  cases w <;> cases v <;> simp [fits] at h
  · rw [allSG_iff]
    intro c hc
    have := h.2 c hc
    rw [mem_ALN] at this
    rw [mem_SG]; omega
  · rename_i i
    show allSG (shI i) = true
    have : allSG (TL.numL i.natAbs) = true := by
      rw [allSG_iff]; intro c hc
      have := TL.numL_digits _ c hc
      rw [mem_SG]; omega
    unfold shI; split
    · rw [allSG_cons]; exact ⟨by decide, this⟩
    · exact this
  · rename_i t
    show allSG (34 :: (t.flatMap escQ ++ [34])) = true
    rw [allSG_cons, allSG_app]
    exact ⟨by decide, flat_SG escQ_SG h.2, by decide⟩
  · exact flat_SG escP_SG h.2
  · exact flat_SG escL_SG h.2
theorem join_SG {btw : T} (hb : allSG btw = true) : ∀ {l : List T}, (∀ t ∈ l, allSG t = true) → allSG (join btw l) = true
  | [], _ => rfl
  | [a], h => h a (List.mem_cons_self ..)
  | a :: b :: r, h => by
    show allSG (a ++ (btw ++ join btw (b :: r))) = true
    rw [allSG_app, allSG_app]
    exact ⟨h a (List.mem_cons_self ..), hb, join_SG hb fun t ht => h t (List.mem_cons_of_mem _ ht)⟩
mutual
theorem spN_SG : ∀ (n : Node) (f : Fill), vaN n → okN n f → allSG (spN n f) = true
  | .text _, f, _, h => by cases f <;> simp [okN] at h
  | .place _ w, f, _, h => by
    cases f with
    | val v => unfold okN at h; unfold spN; exact marked_SG h
    | _ => simp [okN] at h
  | .loop _ _ b btw, f, hv, h => by
    have ih := spL_SG b
    cases f with
    | rounds rs =>
      unfold okN at h; unfold spN; unfold vaN at hv
      refine join_SG hv.2 fun t ht => ?_
      obtain ⟨q, hq, rfl⟩ := List.mem_map.mp ht
      exact ih q hv.1 (h q hq)
    | _ => simp [okN] at h
  | .choice _ y n, f, hv, h => by
    have ihy := spL_SG y
    have ihn := spL_SG n
    cases f with
    | side c fs =>
      unfold okN at h; unfold spN; unfold vaN at hv
      cases c with
      | true => exact ihy fs hv.1 h
      | false => exact ihn fs hv.2 h
    | _ => simp [okN] at h
theorem spL_SG : ∀ (ns : List Node) (fs : List Fill), vaL ns → okL ns fs → allSG (spL ns fs) = true
  | [], fs, _, _ => by unfold spL; rfl
  | .text t :: ns, fs, hv, h => by
    have ih := spL_SG ns
    unfold okL at h; unfold spL; unfold vaL vaN at hv
    rw [allSG_app]
    exact ⟨hv.1.2, ih fs hv.2 h⟩
  | .place p w :: ns, fs, hv, h => by
    have ih := spL_SG ns
    have ihn := spN_SG (.place p w)
    cases fs with
    | nil => simp [okL] at h
    | cons f fs =>
      unfold okL at h; unfold spL; unfold vaL at hv
      rw [allSG_app]
      exact ⟨ihn f hv.1 h.1, ih fs hv.2 h.2⟩
  | .loop a p b c :: ns, fs, hv, h => by
    have ih := spL_SG ns
    have ihn := spN_SG (.loop a p b c)
    cases fs with
    | nil => simp [okL] at h
    | cons f fs =>
      unfold okL at h; unfold spL; unfold vaL at hv
      rw [allSG_app]
      exact ⟨ihn f hv.1 h.1, ih fs hv.2 h.2⟩
  | .choice p y n :: ns, fs, hv, h => by
    have ih := spL_SG ns
    have ihn := spN_SG (.choice p y n)
    cases fs with
    | nil => simp [okL] at h
    | cons f fs =>
      unfold okL at h; unfold spL; unfold vaL at hv
      rw [allSG_app]
      exact ⟨ihn f hv.1 h.1, ih fs hv.2 h.2⟩
end
/-! ### begins -/
theorem bgL_acc : ∀ (ns : List Node) (found : T), (bgL ns found).2 = (bgL ns []).2 ∧ ∀ c, c ∈ SG → (c ∈ (bgL ns found).1 ↔ c ∈ found ∨ c ∈ (bgL ns []).1)
  | [], found => by
    unfold bgL
    exact ⟨rfl, fun c _ => by simp⟩
  | n :: ns, found => by
    unfold bgL
    split
    · have h1 := bgL_acc ns (united found (bgN n).1)
      have h2 := bgL_acc ns (united [] (bgN n).1)
      refine ⟨h1.1.trans h2.1.symm, fun c hc => ?_⟩
      rw [h1.2 c hc, h2.2 c hc, mem_united, mem_united]
      simp [hc, or_assoc]
    · refine ⟨rfl, fun c hc => ?_⟩
      show c ∈ united found (bgN n).1 ↔ c ∈ found ∨ c ∈ united [] (bgN n).1
      rw [mem_united, mem_united]
      simp [hc]
theorem bgL_SG : ∀ (ns : List Node) (c : Nat), c ∈ (bgL ns []).1 → c ∈ SG
  | ns, c, h => by
    have key : ∀ (ns : List Node) (found : T), (∀ c ∈ found, c ∈ SG) → ∀ c ∈ (bgL ns found).1, c ∈ SG := by
      intro ns
      induction ns with
      | nil => intro found hf c hc; unfold bgL at hc; exact hf c hc
      | cons n ns ih =>
        intro found hf c hc
        unfold bgL at hc
        split at hc
        · exact ih _ (fun d hd => (mem_united.mp hd).1) c hc
        · exact (mem_united.mp hc).1
    exact key ns [] (fun c hc => by simp at hc) c h
theorem bgL_cons {n : Node} {ns : List Node} {c : Nat} (hc : c ∈ SG) : c ∈ (bgL (n :: ns) []).1 ↔ c ∈ (bgN n).1 ∨ ((bgN n).2 = true ∧ c ∈ (bgL ns []).1) := by
  rw [show bgL (n :: ns) [] = if (bgN n).2 then bgL ns (united [] (bgN n).1) else (united [] (bgN n).1, false) by rw [bgL]]
  cases h : (bgN n).2 with
  | true =>
    rw [if_pos rfl, (bgL_acc ns _).2 c hc, mem_united]
    simp [hc]
  | false =>
    rw [if_neg (by simp)]
    show c ∈ united [] (bgN n).1 ↔ _
    rw [mem_united]
    simp [hc]
theorem bgL_void {n : Node} {ns : List Node} : (bgL (n :: ns) []).2 = ((bgN n).2 && (bgL ns []).2) := by
  rw [show bgL (n :: ns) [] = if (bgN n).2 then bgL ns (united [] (bgN n).1) else (united [] (bgN n).1, false) by rw [bgL]]
  cases h : (bgN n).2 with
  | true => rw [if_pos rfl, (bgL_acc ns _).1]; simp
  | false => rw [if_neg (by simp)]; simp
theorem marked_begin {w : Way} {v : Vl} (h : fits w v = true) : (∀ c r, marked w v = c :: r → c ∈ begins w) ∧ (marked w v = [] → isVoid w = true) := by
  have hs := marked_SG h
  cases w <;> cases v <;> simp [fits] at h
  · rename_i t
    refine ⟨fun c r e => ?_, fun e => ?_⟩
    · have hc := h.2 c (by have e' : t = c :: r := e; rw [e']; exact List.mem_cons_self ..)
      have hS : c ∈ SG := allSG_iff.mp hs c (by rw [e]; exact List.mem_cons_self ..)
      show c ∈ withoutL (withoutL ALN)
      rw [mem_without, mem_without]
      exact ⟨hS, fun q => q.2 hc⟩
    · have e' : t = [] := e
      rw [e'] at h
      simp at h
  · rename_i i
    refine ⟨fun c r e => ?_, fun e => absurd e (shI_ne i)⟩
    have e' : shI i = c :: r := e
    show c ∈ 45 :: FIG
    unfold shI at e'
    split at e'
    · injection e' with e1 e2; rw [← e1]; exact List.mem_cons_self ..
    · have := TL.numL_digits i.natAbs c (by rw [e']; exact List.mem_cons_self ..)
      exact List.mem_cons_of_mem _ (mem_FIG.mpr this)
  · refine ⟨fun c r e => ?_, fun e => ?_⟩
    · injection e with e1 e2
      rw [← e1]; exact List.mem_cons_self ..
    · cases e
  · rename_i t
    refine ⟨fun c r e => ?_, fun _ => rfl⟩
    show c ∈ withoutL (ends .plain)
    rw [mem_without]
    have e' : t.flatMap escP = c :: r := e
    exact ⟨allSG_iff.mp hs c (by rw [e]; exact List.mem_cons_self ..), flat_no escP_no t c (by rw [e']; exact List.mem_cons_self ..)⟩
  · rename_i t
    refine ⟨fun c r e => ?_, fun _ => rfl⟩
    show c ∈ withoutL (ends .line)
    rw [mem_without]
    have e' : t.flatMap escL = c :: r := e
    exact ⟨allSG_iff.mp hs c (by rw [e]; exact List.mem_cons_self ..), flat_no escL_no t c (by rw [e']; exact List.mem_cons_self ..)⟩
theorem join_begin {btw : T} {B : T} {vd : Bool} : ∀ {l : List T}, (∀ t ∈ l, (∀ c r, t = c :: r → c ∈ B) ∧ (t = [] → vd = true)) → ∀ c r, join btw l = c :: r → c ∈ B ∨ (vd = true ∧ c ∈ btw.take 1)
  | [], _, c, r, e => by cases e
  | [a], h, c, r, e => .inl ((h a (List.mem_cons_self ..)).1 c r e)
  | a :: b :: q, h, c, r, e => by
    have e' : a ++ (btw ++ join btw (b :: q)) = c :: r := e
    cases a with
    | cons d a' =>
      injection e' with e1 e2
      exact .inl ((h _ (List.mem_cons_self ..)).1 c a' (by rw [← e1]))
    | nil =>
      have hv := (h _ (List.mem_cons_self ..)).2 rfl
      cases btw with
      | cons d b' =>
        injection e' with e1 e2
        exact .inr ⟨hv, by rw [← e1]; exact List.mem_cons_self ..⟩
      | nil =>
        rcases join_begin (fun t ht => h t (List.mem_cons_of_mem _ ht)) c r e' with z | z
        · exact .inl z
        · exact .inr z
mutual
theorem spN_begin : ∀ (n : Node) (f : Fill), vaN n → okN n f → (∀ c r, spN n f = c :: r → c ∈ (bgN n).1) ∧ (spN n f = [] → (bgN n).2 = true)
  | .text _, f, _, h => by cases f <;> simp [okN] at h
  | .place _ w, f, _, h => by
    cases f with
    | val v => unfold okN at h; unfold spN bgN; exact marked_begin h
    | _ => simp [okN] at h
  | .loop nm p b btw, f, hv, h => by
    have ih := spL_begin b
    have hs := spN_SG (.loop nm p b btw) f hv h
    cases f with
    | rounds rs =>
      unfold okN at h; rw [spN] at hs ⊢; unfold vaN at hv; rw [bgN]
      refine ⟨fun c r e => ?_, fun _ => rfl⟩
      have hc : c ∈ SG := allSG_iff.mp hs c (by rw [e]; exact List.mem_cons_self ..)
      have z := join_begin (B := (bgL b []).1) (vd := (bgL b []).2) (fun t ht => by
        obtain ⟨q, hq, rfl⟩ := List.mem_map.mp ht
        exact ih q hv.1 (h q hq)) c r e
      show c ∈ (if (bgL b []).2 = true then united (bgL b []).1 (btw.take 1) else (bgL b []).1)
      split
      · rw [mem_united]
        rcases z with z | z
        · exact ⟨hc, .inl z⟩
        · exact ⟨hc, .inr z.2⟩
      · rename_i hn
        rcases z with z | z
        · exact z
        · exact absurd z.1 hn
    | _ => simp [okN] at h
  | .choice p y n, f, hv, h => by
    have ihy := spL_begin y
    have ihn := spL_begin n
    have hs := spN_SG (.choice p y n) f hv h
    cases f with
    | side c fs =>
      unfold okN at h; rw [spN] at hs ⊢; unfold vaN at hv; rw [bgN]
      cases c with
      | true =>
        have z := ihy fs hv.1 h
        refine ⟨fun c r e => mem_united.mpr ⟨allSG_iff.mp hs c (by rw [e]; exact List.mem_cons_self ..), .inl (z.1 c r e)⟩, fun e => ?_⟩
        show ((bgL y []).2 || (bgL n []).2) = true
        rw [z.2 e]; rfl
      | false =>
        have z := ihn fs hv.2 h
        refine ⟨fun c r e => mem_united.mpr ⟨allSG_iff.mp hs c (by rw [e]; exact List.mem_cons_self ..), .inr (z.1 c r e)⟩, fun e => ?_⟩
        show ((bgL y []).2 || (bgL n []).2) = true
        rw [z.2 e]; simp
    | _ => simp [okN] at h
theorem spL_begin : ∀ (ns : List Node) (fs : List Fill), vaL ns → okL ns fs → (∀ c r, spL ns fs = c :: r → c ∈ (bgL ns []).1) ∧ (spL ns fs = [] → (bgL ns []).2 = true)
  | [], fs, _, _ => by rw [spL, bgL]; exact ⟨fun c r e => by simp at e, fun _ => rfl⟩
  | .text t :: ns, fs, hv, h => by
    have hs := spL_SG (.text t :: ns) fs hv h
    rw [spL] at hs ⊢
    rw [vaL, vaN] at hv
    have ht : ∃ d t', t = d :: t' := by cases t with | nil => exact absurd rfl hv.1.1 | cons d t' => exact ⟨d, t', rfl⟩
    obtain ⟨d, t', rfl⟩ := ht
    refine ⟨fun c r e => ?_, fun e => by simp at e⟩
    have hc : c ∈ SG := allSG_iff.mp hs c (by rw [e]; exact List.mem_cons_self ..)
    rw [bgL_cons hc]
    left
    injection e with e1 e2
    rw [← e1]
    unfold bgN
    exact List.mem_cons_self ..
  | .place p w :: ns, fs, hv, h => by
    have ih := spL_begin ns
    have ihn := spN_begin (.place p w)
    have hs := spL_SG (.place p w :: ns) fs hv h
    cases fs with
    | nil => simp [okL] at h
    | cons f fs =>
      unfold okL at h; rw [spL_place] at hs ⊢; unfold vaL at hv
      have z := ihn f hv.1 h.1
      have z2 := ih fs hv.2 h.2
      refine ⟨fun c r e => ?_, fun e => ?_⟩
      · have hc : c ∈ SG := allSG_iff.mp hs c (by rw [e]; exact List.mem_cons_self ..)
        rw [bgL_cons hc]
        cases q : spN (.place p w) f with
        | cons d r' => rw [q] at e; injection e with e1 e2; exact .inl (z.1 c r' (by rw [q, e1]))
        | nil => rw [q] at e; exact .inr ⟨z.2 q, z2.1 c r e⟩
      · rw [bgL_void]
        obtain ⟨q1, q2⟩ := List.append_eq_nil_iff.mp e
        rw [z.2 q1, z2.2 q2]; rfl
  | .loop a p b c :: ns, fs, hv, h => by
    have ih := spL_begin ns
    have ihn := spN_begin (.loop a p b c)
    have hs := spL_SG (.loop a p b c :: ns) fs hv h
    cases fs with
    | nil => simp [okL] at h
    | cons f fs =>
      unfold okL at h; rw [spL_loop] at hs ⊢; unfold vaL at hv
      have z := ihn f hv.1 h.1
      have z2 := ih fs hv.2 h.2
      refine ⟨fun d r e => ?_, fun e => ?_⟩
      · have hc : d ∈ SG := allSG_iff.mp hs d (by rw [e]; exact List.mem_cons_self ..)
        rw [bgL_cons hc]
        cases q : spN (.loop a p b c) f with
        | cons d' r' => rw [q] at e; injection e with e1 e2; exact .inl (z.1 d r' (by rw [q, e1]))
        | nil => rw [q] at e; exact .inr ⟨z.2 q, z2.1 d r e⟩
      · rw [bgL_void]
        obtain ⟨q1, q2⟩ := List.append_eq_nil_iff.mp e
        rw [z.2 q1, z2.2 q2]; rfl
  | .choice p y n :: ns, fs, hv, h => by
    have ih := spL_begin ns
    have ihn := spN_begin (.choice p y n)
    have hs := spL_SG (.choice p y n :: ns) fs hv h
    cases fs with
    | nil => simp [okL] at h
    | cons f fs =>
      unfold okL at h; rw [spL_choice] at hs ⊢; unfold vaL at hv
      have z := ihn f hv.1 h.1
      have z2 := ih fs hv.2 h.2
      refine ⟨fun d r e => ?_, fun e => ?_⟩
      · have hc : d ∈ SG := allSG_iff.mp hs d (by rw [e]; exact List.mem_cons_self ..)
        rw [bgL_cons hc]
        cases q : spN (.choice p y n) f with
        | cons d' r' => rw [q] at e; injection e with e1 e2; exact .inl (z.1 d r' (by rw [q, e1]))
        | nil => rw [q] at e; exact .inr ⟨z.2 q, z2.1 d r e⟩
      · rw [bgL_void]
        obtain ⟨q1, q2⟩ := List.append_eq_nil_iff.mp e
        rw [z.2 q1, z2.2 q2]; rfl
end
/-- what is spelt, and what may follow behind it, stands in sideB -/
theorem here_side {ns : List Node} {fs : List Fill} {fo : Fo} {rest : T} (hv : vaL ns) (ho : okL ns fs) (hs : allSG rest = true) (hr : here rest fo.1 fo.2 = true) :
    here (spL ns fs ++ rest) (sideB ns fo).1 (sideB ns fo).2 = true := by
  have z := spL_begin ns fs hv ho
  unfold sideB
  cases q : spL ns fs with
  | cons c r =>
    have hc := z.1 c r q
    show decide _ = true
    rw [decide_eq_true_eq]
    split
    · exact mem_united.mpr ⟨bgL_SG _ _ hc, .inl hc⟩
    · exact hc
  | nil =>
    rw [if_pos (z.2 q)]
    cases rest with
    | nil => exact hr
    | cons c r =>
      show decide _ = true
      rw [decide_eq_true_eq]
      exact mem_united.mpr ⟨(allSG_cons.mp hs).1, .inr (of_decide_eq_true hr)⟩
theorem common_false {a b : T} (h : common a b = false) {c : Nat} (ha : c ∈ a) : c ∉ b := fun hb => by
  unfold common at h
  rw [List.any_eq_false] at h
  exact absurd (decide_eq_true hb) (h c ha)
theorem here_not {rest : T} {fo : Fo} {a : T} (hr : here rest fo.1 fo.2 = true) (hd : ∀ c ∈ a, c ∉ fo.1) : here rest a false = false := by
  cases rest with
  | nil => rfl
  | cons c r =>
    show decide _ = false
    rw [decide_eq_false_iff_not]
    exact fun hc => hd c hc (of_decide_eq_true hr)
/-- the rounds behind the first -/
theorem rdLoop_complete {b : List Node} {btw : T} {fo : Fo} {rest : T} (hvd : (bgL b []).2 = false) (hcm : ∀ c ∈ (bgL b []).1 ++ btw.take 1, c ∉ fo.1) (hv : vaL b) (hb : allSG btw = true)
    (ih : ∀ (fs : List Fill) (rest : T), okL b fs → allSG rest = true → here rest (withinL b btw fo).1 (withinL b btw fo).2 = true → rdL b (withinL b btw fo) (spL b fs ++ rest) = some (fs, rest))
    (hs : allSG rest = true) (hr : here rest fo.1 fo.2 = true) : ∀ (rs : List (List Fill)), (∀ q ∈ rs, okL b q) → ∀ k, ((rs.map fun q => btw ++ spL b q).flatten ++ rest).length < k →
      here ((rs.map fun q => btw ++ spL b q).flatten ++ rest) (withinL b btw fo).1 (withinL b btw fo).2 = true ∧ allSG ((rs.map fun q => btw ++ spL b q).flatten ++ rest) = true ∧
      rdLoop (fun s => rdL b (withinL b btw fo) s) btw (againB b btw) k ((rs.map fun q => btw ++ spL b q).flatten ++ rest) = some (rs, rest)
  | [], _, k, hk => by
    have hag : ∀ c ∈ againB b btw, c ∉ fo.1 := fun c hc => hcm c (by
      unfold againB at hc
      split at hc
      · exact List.mem_append_left _ hc
      · exact List.mem_append_right _ hc)
    refine ⟨?_, hs, ?_⟩
    · show here rest (united (againB b btw) fo.1) fo.2 = true
      cases rest with
      | nil => exact hr
      | cons c r =>
        show decide _ = true
        rw [decide_eq_true_eq, mem_united]
        exact ⟨(allSG_cons.mp hs).1, .inr (of_decide_eq_true hr)⟩
    · cases k with
      | zero => exact absurd hk (Nat.not_lt_zero _)
      | succ k =>
        show rdLoop _ btw (againB b btw) (k + 1) rest = some ([], rest)
        unfold rdLoop
        rw [here_not hr hag]
        rfl
  | q :: rs, ho, k, hk => by
    have hoq := ho q (List.mem_cons_self ..)
    have z := spL_begin b q hv hoq
    have hne : spL b q ≠ [] := fun e => by rw [z.2 e] at hvd; cases hvd
    obtain ⟨d, r', hq⟩ : ∃ d r', spL b q = d :: r' := by cases e : spL b q with | nil => exact absurd e hne | cons d r' => exact ⟨d, r', rfl⟩
    have hsq := spL_SG b q hv hoq
    have hsp : (((q :: rs).map fun q => btw ++ spL b q).flatten ++ rest) = btw ++ (spL b q ++ ((rs.map fun q => btw ++ spL b q).flatten ++ rest)) := by simp
    rw [hsp] at hk
    rw [hsp]
    simp only [List.length_append] at hk
    have hql : 1 ≤ (spL b q).length := by rw [hq]; simp
    have hfu : ∀ j, (k = j + 1) → ((rs.map fun q => btw ++ spL b q).flatten ++ rest).length < j := fun j e => by rw [List.length_append]; omega
    cases k with
    | zero => exact absurd hk (Nat.not_lt_zero _)
    | succ k =>
      obtain ⟨h1, h2, h3⟩ := rdLoop_complete hvd hcm hv hb ih hs hr rs (fun p hp => ho p (List.mem_cons_of_mem _ hp)) k (hfu k rfl)
      have hag : here (btw ++ (spL b q ++ ((rs.map fun q => btw ++ spL b q).flatten ++ rest))) (againB b btw) false = true := by
        unfold againB
        cases btw with
        | nil =>
          rw [if_pos rfl, List.nil_append, hq]
          show decide _ = true
          rw [decide_eq_true_eq]
          exact z.1 d r' hq
        | cons c b' =>
          rw [if_neg (by simp)]
          show decide _ = true
          rw [decide_eq_true_eq]
          exact List.mem_cons_self ..
      have hall : allSG (btw ++ (spL b q ++ ((rs.map fun q => btw ++ spL b q).flatten ++ rest))) = true := by
        rw [allSG_app, allSG_app]; exact ⟨hb, hsq, h2⟩
      refine ⟨?_, hall, ?_⟩
      · cases e : btw ++ (spL b q ++ ((rs.map fun q => btw ++ spL b q).flatten ++ rest)) with
        | nil =>
          have := (List.append_eq_nil_iff.mp (List.append_eq_nil_iff.mp e).2).1
          exact absurd this hne
        | cons c r =>
          rw [e] at hag hall
          show decide (c ∈ united (againB b btw) fo.1) = true
          rw [decide_eq_true_eq, mem_united]
          exact ⟨(allSG_cons.mp hall).1, .inl (of_decide_eq_true hag)⟩
      · unfold rdLoop
        rw [hag, if_pos rfl, stripP_self]
        simp only [ih q _ hoq h2 h1, h3]
        rfl
theorem or_false2 {a b : Bool} (h : ¬ (a || b) = true) : a = false ∧ b = false := by
  cases a <;> cases b <;> simp_all
mutual
theorem rdN_complete : ∀ (n : Node) (fo : Fo) (f : Fill) (rest : T), vaN n → clN n fo = true → okN n f → allSG rest = true → here rest fo.1 fo.2 = true → rdN n fo (spN n f ++ rest) = some (f, rest)
  | .text _, _, f, _, _, _, h, _, _ => by cases f <;> simp [okN] at h
  | .place _ w, fo, f, rest, _, hc, h, hs, hr => by
    cases f with
    | val v =>
      unfold okN at h; unfold clN at hc; unfold rdN spN
      rw [readW_complete h (fun c r e => ?_)]; rfl
      subst e
      have := List.all_eq_true.mp hc c (of_decide_eq_true hr)
      exact of_decide_eq_true this
    | _ => simp [okN] at h
  | .loop nm p b btw, fo, f, rest, hv, hc, h, hs, hr => by
    have ih := rdL_complete b (withinL b btw fo)
    cases f with
    | rounds rs =>
      unfold okN at h; unfold vaN at hv; unfold clN at hc
      split at hc
      · cases hc
      · rename_i hn
        obtain ⟨hvd, hcm⟩ := or_false2 hn
        have hcm' : ∀ c ∈ (bgL b []).1 ++ btw.take 1, c ∉ fo.1 := fun c hcc => common_false hcm hcc
        have ih' : ∀ (fs : List Fill) (rest : T), okL b fs → allSG rest = true → here rest (withinL b btw fo).1 (withinL b btw fo).2 = true → rdL b (withinL b btw fo) (spL b fs ++ rest) = some (fs, rest) :=
          fun fs rest o s r => ih fs rest hv.1 hc o s r
        unfold rdN spN
        cases rs with
        | nil =>
          show (if here rest (bgL b []).1 false = true then _ else _) = _
          rw [here_not hr (fun c hcc => hcm' c (List.mem_append_left _ hcc))]
          rfl
        | cons q rs =>
          have hoq := h q (List.mem_cons_self ..)
          have z := spL_begin b q hv.1 hoq
          have hne : spL b q ≠ [] := fun e => by rw [z.2 e] at hvd; cases hvd
          obtain ⟨d, r', hq⟩ : ∃ d r', spL b q = d :: r' := by cases e : spL b q with | nil => exact absurd e hne | cons d r' => exact ⟨d, r', rfl⟩
          have hsp : join btw ((q :: rs).map fun r => spL b r) ++ rest = spL b q ++ ((rs.map fun q => btw ++ spL b q).flatten ++ rest) := by
            rw [List.map_cons, join_cons, List.map_map, List.append_assoc]; rfl
          rw [hsp]
          have hfirst : here (spL b q ++ ((rs.map fun q => btw ++ spL b q).flatten ++ rest)) (bgL b []).1 false = true := by
            rw [hq]
            show decide _ = true
            rw [decide_eq_true_eq]
            exact z.1 d r' hq
          obtain ⟨h1, h2, h3⟩ := rdLoop_complete hvd hcm' hv.1 hv.2 ih' hs hr rs (fun p hp => h p (List.mem_cons_of_mem _ hp)) _ (Nat.lt_succ_self _)
          rw [hfirst, if_pos rfl]
          simp only [ih' q _ hoq h2 h1, h3]
          rfl
    | _ => simp [okN] at h
  | .choice p y n, fo, f, rest, hv, hc, h, hs, hr => by
    have ihy := rdL_complete y fo
    have ihn := rdL_complete n fo
    cases f with
    | side c fs =>
      unfold okN at h; unfold vaN at hv; unfold clN at hc
      split at hc
      · cases hc
      · rename_i hn
        obtain ⟨hcm, hvd⟩ := or_false2 hn
        obtain ⟨hcy, hcn⟩ := Bool.and_eq_true_iff.mp hc
        unfold rdN spN
        cases c with
        | true =>
          show (if here (spL y fs ++ rest) (sideB y fo).1 (sideB y fo).2 = true then (rdL y fo (spL y fs ++ rest)).map (fun q => (Fill.side true q.1, q.2)) else _) = _
          rw [here_side hv.1 h hs hr, if_pos rfl, ihy fs rest hv.1 hcy h hs hr]; rfl
        | false =>
          have hh := here_side hv.2 h hs hr
          have hnot : here (spL n fs ++ rest) (sideB y fo).1 (sideB y fo).2 = false := by
            cases e : spL n fs ++ rest with
            | nil =>
              rw [e] at hh
              have hh' : (sideB n fo).2 = true := hh
              show (sideB y fo).2 = false
              cases q : (sideB y fo).2 with
              | false => rfl
              | true => rw [q, hh'] at hvd; cases hvd
            | cons c r =>
              rw [e] at hh
              show decide _ = false
              rw [decide_eq_false_iff_not]
              exact fun hcc => common_false hcm hcc (of_decide_eq_true hh)
          show (if here (spL n fs ++ rest) (sideB y fo).1 (sideB y fo).2 = true then _ else if here (spL n fs ++ rest) (sideB n fo).1 (sideB n fo).2 = true then (rdL n fo (spL n fs ++ rest)).map (fun q => (Fill.side false q.1, q.2)) else none) = _
          rw [hnot, if_neg (by simp), hh, if_pos rfl, ihn fs rest hv.2 hcn h hs hr]; rfl
    | _ => simp [okN] at h
theorem rdL_complete : ∀ (ns : List Node) (fo : Fo) (fs : List Fill) (rest : T), vaL ns → clL ns fo = true → okL ns fs → allSG rest = true → here rest fo.1 fo.2 = true → rdL ns fo (spL ns fs ++ rest) = some (fs, rest)
  | [], fo, fs, rest, _, _, h, _, _ => by
    cases fs with
    | nil => unfold rdL spL; rfl
    | cons f fs => simp [okL] at h
  | .text t :: ns, fo, fs, rest, hv, hc, h, hs, hr => by
    have ih := rdL_complete ns fo
    unfold okL at h; unfold vaL at hv; unfold clL at hc
    unfold rdL spL
    rw [List.append_assoc, stripP_self]
    exact ih fs rest hv.2 (Bool.and_eq_true_iff.mp hc).2 h hs hr
  | .place p w :: ns, fo, fs, rest, hv, hc, h, hs, hr => by
    have ih := rdL_complete ns fo
    have ihn := rdN_complete (.place p w) (sideB ns fo)
    cases fs with
    | nil => simp [okL] at h
    | cons f fs =>
      unfold okL at h; unfold vaL at hv; unfold clL at hc
      obtain ⟨hc1, hc2⟩ := Bool.and_eq_true_iff.mp hc
      unfold rdL spL
      rw [List.append_assoc, ihn f _ hv.1 hc1 h.1 (allSG_app.mpr ⟨spL_SG _ _ hv.2 h.2, hs⟩) (here_side hv.2 h.2 hs hr)]
      simp only [ih fs rest hv.2 hc2 h.2 hs hr]
      rfl
  | .loop a p b c :: ns, fo, fs, rest, hv, hc, h, hs, hr => by
    have ih := rdL_complete ns fo
    have ihn := rdN_complete (.loop a p b c) (sideB ns fo)
    cases fs with
    | nil => simp [okL] at h
    | cons f fs =>
      unfold okL at h; unfold vaL at hv; unfold clL at hc
      obtain ⟨hc1, hc2⟩ := Bool.and_eq_true_iff.mp hc
      unfold rdL spL
      rw [List.append_assoc, ihn f _ hv.1 hc1 h.1 (allSG_app.mpr ⟨spL_SG _ _ hv.2 h.2, hs⟩) (here_side hv.2 h.2 hs hr)]
      simp only [ih fs rest hv.2 hc2 h.2 hs hr]
      rfl
  | .choice p y n :: ns, fo, fs, rest, hv, hc, h, hs, hr => by
    have ih := rdL_complete ns fo
    have ihn := rdN_complete (.choice p y n) (sideB ns fo)
    cases fs with
    | nil => simp [okL] at h
    | cons f fs =>
      unfold okL at h; unfold vaL at hv; unfold clL at hc
      obtain ⟨hc1, hc2⟩ := Bool.and_eq_true_iff.mp hc
      unfold rdL spL
      rw [List.append_assoc, ihn f _ hv.1 hc1 h.1 (allSG_app.mpr ⟨spL_SG _ _ hv.2 h.2, hs⟩) (here_side hv.2 h.2 hs hr)]
      simp only [ih fs rest hv.2 hc2 h.2 hs hr]
      rfl
end
/-! ### the two laws -/
theorem read_complete {form : List Node} {fs : List Fill} (hv : vaL form) (hc : clL form ([], true) = true) (ho : okL form fs) : readBack form (spL form fs) = some fs := by
  have h := rdL_complete form ([], true) fs [] hv hc ho rfl rfl
  rw [List.append_nil] at h
  unfold readBack
  rw [h]
theorem read_sound {form : List Node} {fs : List Fill} {s : T} (h : readBack form s = some fs) : okL form fs ∧ spL form fs = s := by
  unfold readBack at h
  split at h
  · rename_i fs' e
    injection h with h
    subst h
    obtain ⟨o, a⟩ := rdL_sound form ([], true) s _ _ e
    exact ⟨o, by rw [a, List.append_nil]⟩
  · cases h
/-- what is read of nodes that are not void goes on -/
theorem rdL_goes {ns : List Node} {fo : Fo} {s r : T} {fs : List Fill} (hv : vaL ns) (hn : (bgL ns []).2 = false) (h : rdL ns fo s = some (fs, r)) : r.length < s.length := by
  obtain ⟨o, a⟩ := rdL_sound ns fo s fs r h
  have z := spL_begin ns fs hv o
  have : spL ns fs ≠ [] := fun e => by rw [z.2 e] at hn; cases hn
  have := List.length_pos_iff.mpr this
  rw [a, List.length_append]; omega
end K16
end

section
set_option maxHeartbeats 4000000
/-! M4: neighbouring texts as one; tidy lists are clear; sizes of fills. Plain Lean. -/
namespace K16
/-! ### neighbouring texts as one -/
def one : List Node → List Node
  | [] => []
  | .text a :: rest => match one rest with
    | .text b :: r => .text (a ++ b) :: r
    | r => .text a :: r
  | n :: rest => n :: one rest
def isText : Node → Bool
  | .text _ => true
  | _ => false
/-- one more node behind -/
def oneS (found : List Node) (n : Node) : List Node := match found.getLast?, n with
  | some (.text a), .text b => found.dropLast ++ [.text (a ++ b)]
  | _, _ => found ++ [n]
theorem oneS_nil (n : Node) : oneS [] n = [n] := by cases n <;> rfl
theorem oneS_cons {x : Node} {y : Node} {xs : List Node} (n : Node) : oneS (x :: y :: xs) n = x :: oneS (y :: xs) n := by
  unfold oneS
  rw [List.getLast?_cons_cons, List.dropLast_cons_cons]
  split <;> rfl
theorem one_node {n : Node} {r : List Node} (h : isText n = false) : one (n :: r) = n :: one r := by
  cases n <;> first | rfl | (cases h)
theorem oneS_hd {x : Node} {xs : List Node} (n : Node) (h : isText x = false) : oneS (x :: xs) n = x :: oneS xs n := by
  cases xs with
  | nil =>
    rw [oneS_nil]
    unfold oneS
    cases x <;> first | rfl | (cases h)
  | cons y ys => exact oneS_cons n
theorem one_snoc : ∀ (L : List Node) (n : Node), one (L ++ [n]) = oneS (one L) n
  | [], n => by rw [List.nil_append, show one [] = [] from rfl, oneS_nil]; cases n <;> rfl
  | x :: L, n => by
    have ih := one_snoc L n
    cases hx : isText x with
    | false => rw [List.cons_append, one_node hx, one_node hx, ih, oneS_hd n hx]
    | true =>
      cases x with
      | text a =>
        show (match one (L ++ [n]) with | .text b :: r => Node.text (a ++ b) :: r | r => .text a :: r) = oneS (match one L with | .text b :: r => Node.text (a ++ b) :: r | r => .text a :: r) n
        rw [ih]
        cases hL : one L with
        | nil =>
          rw [oneS_nil]
          cases n <;> rfl
        | cons y ys =>
          cases ys with
          | nil =>
            cases y with
            | text b =>
              cases n with
              | text c =>
                show [Node.text (a ++ (b ++ c))] = [Node.text ((a ++ b) ++ c)]
                rw [List.append_assoc]
              | _ => rfl
            | _ => cases n <;> rfl
          | cons z zs =>
            rw [oneS_cons]
            cases y with
            | text b =>
              show Node.text (a ++ b) :: oneS (z :: zs) n = oneS (Node.text (a ++ b) :: z :: zs) n
              rw [oneS_cons]
            | place p w =>
              show Node.text a :: (.place p w) :: oneS (z :: zs) n = oneS (Node.text a :: .place p w :: z :: zs) n
              rw [oneS_cons, oneS_cons]
            | loop nm p b c =>
              show Node.text a :: (.loop nm p b c) :: oneS (z :: zs) n = oneS (Node.text a :: .loop nm p b c :: z :: zs) n
              rw [oneS_cons, oneS_cons]
            | choice p y n' =>
              show Node.text a :: (.choice p y n') :: oneS (z :: zs) n = oneS (Node.text a :: .choice p y n' :: z :: zs) n
              rw [oneS_cons, oneS_cons]
      | _ => cases hx
theorem one_text (a : T) (r : List Node) : (∃ b r', one r = .text b :: r' ∧ one (.text a :: r) = .text (a ++ b) :: r') ∨ ((∀ b r', one r ≠ .text b :: r') ∧ one (.text a :: r) = .text a :: one r) := by
  cases h : one r with
  | nil => right; refine ⟨fun b r' e => (by cases e), ?_⟩; show (match one r with | .text b :: r => Node.text (a ++ b) :: r | r => .text a :: r) = _; rw [h]
  | cons y ys =>
    cases y with
    | text b => left; refine ⟨b, ys, rfl, ?_⟩; show (match one r with | .text b :: r => Node.text (a ++ b) :: r | r => .text a :: r) = _; rw [h]
    | _ => right; refine ⟨fun b r' e => (by cases e), ?_⟩; show (match one r with | .text b :: r => Node.text (a ++ b) :: r | r => .text a :: r) = _; rw [h]
/-- what is a sum over the nodes, by which texts side by side count together, is kept -/
theorem one_sum {f : Node → Nat} (hf : ∀ a b, f (.text (a ++ b)) = f (.text a) + f (.text b)) : ∀ L : List Node, ((one L).map f).sum = (L.map f).sum
  | [] => rfl
  | x :: L => by
    have ih := one_sum hf L
    cases hx : isText x with
    | false => rw [one_node hx, List.map_cons, List.map_cons, List.sum_cons, List.sum_cons, ih]
    | true =>
      cases x with
      | text a =>
        rcases one_text a L with ⟨b, r', h1, h2⟩ | ⟨_, h2⟩
        · rw [h2, List.map_cons, List.map_cons, List.sum_cons, List.sum_cons, ← ih, h1, List.map_cons, List.sum_cons, hf]; omega
        · rw [h2, List.map_cons, List.map_cons, List.sum_cons, List.sum_cons, ih]
      | _ => cases hx
theorem one_len : ∀ L : List Node, (one L).length ≤ L.length
  | [] => Nat.le_refl _
  | x :: L => by
    have ih := one_len L
    cases hx : isText x with
    | false => rw [one_node hx]; simpa using ih
    | true =>
      cases x with
      | text a =>
        rcases one_text a L with ⟨b, r', h1, h2⟩ | ⟨_, h2⟩
        · rw [h2]; rw [h1] at ih; simp at ih ⊢; omega
        · rw [h2]; simpa using ih
      | _ => cases hx
/-- what holds of each node, and of joined texts -/
theorem one_all {P : Node → Prop} (hP : ∀ a b, P (.text a) → P (.text b) → P (.text (a ++ b))) : ∀ L : List Node, (∀ n ∈ L, P n) → ∀ n ∈ one L, P n
  | [], _, n, h => by cases h
  | x :: L, hL, n, h => by
    have ih := one_all hP L (fun n hn => hL n (List.mem_cons_of_mem _ hn))
    have hx0 := hL x (List.mem_cons_self ..)
    cases hx : isText x with
    | false =>
      rw [one_node hx] at h
      rcases List.mem_cons.mp h with e | h
      · rw [e]; exact hx0
      · exact ih n h
    | true =>
      cases x with
      | text a =>
        rcases one_text a L with ⟨b, r', h1, h2⟩ | ⟨_, h2⟩
        · rw [h2] at h
          rcases List.mem_cons.mp h with e | h
          · rw [e]; exact hP a b hx0 (ih _ (by rw [h1]; exact List.mem_cons_self ..))
          · exact ih n (by rw [h1]; exact List.mem_cons_of_mem _ h)
        · rw [h2] at h
          rcases List.mem_cons.mp h with e | h
          · rw [e]; exact hx0
          · exact ih n h
      | _ => cases hx
theorem vaL_iff : ∀ ns : List Node, vaL ns ↔ ∀ n ∈ ns, vaN n
  | [] => by unfold vaL; simp
  | n :: ns => by unfold vaL; rw [vaL_iff ns]; simp
theorem one_va {L : List Node} (h : vaL L) : vaL (one L) := by
  rw [vaL_iff] at *
  refine one_all (fun a b ha hb => ?_) L h
  unfold vaN at *
  exact ⟨by simp [ha.1], allSG_app.mpr ⟨ha.2, hb.2⟩⟩
/-! ### tidy: behind each node that is no text a text that makes it clear -/
def TD : List Node → Prop
  | [] => True
  | .text t :: ns => (t ≠ [] ∧ allSG t = true) ∧ TD ns
  | n :: .text t :: ns => (t ≠ [] ∧ allSG t = true) ∧ vaN n ∧ clN n (t.take 1, false) = true ∧ TD ns
  | _ :: _ => False
theorem TD_text {t : T} {ns : List Node} : TD (.text t :: ns) ↔ (t ≠ [] ∧ allSG t = true) ∧ TD ns := by
  cases ns <;> first | rfl | (rename_i x xs; cases x <;> rfl)
theorem TD_node {n : Node} {t : T} {ns : List Node} (h : isText n = false) : TD (n :: .text t :: ns) ↔ (t ≠ [] ∧ allSG t = true) ∧ vaN n ∧ clN n (t.take 1, false) = true ∧ TD ns := by
  cases n <;> first | rfl | (cases h)
theorem TD_shape {n : Node} {ns : List Node} (h : isText n = false) (q : TD (n :: ns)) : ∃ t r, ns = .text t :: r := by
  cases ns with
  | nil => cases n <;> first | exact q.elim | (cases h)
  | cons x xs =>
    cases x with
    | text t => exact ⟨t, xs, rfl⟩
    | _ => cases n <;> first | exact q.elim | (cases h)
theorem TD_append : ∀ {A B : List Node}, TD A → TD B → TD (A ++ B)
  | [], B, _, hb => hb
  | [x], B, ha, hb => by
    cases hx : isText x with
    | true =>
      cases x with
      | text t => rw [List.cons_append, TD_text]; exact ⟨(TD_text.mp ha).1, hb⟩
      | _ => cases hx
    | false => obtain ⟨t, r, e⟩ := TD_shape hx ha; cases e
  | x :: y :: A, B, ha, hb => by
    cases hx : isText x with
    | true =>
      cases x with
      | text t =>
        rw [TD_text] at ha
        rw [List.cons_append, TD_text]
        exact ⟨ha.1, TD_append ha.2 hb⟩
      | _ => cases hx
    | false =>
      obtain ⟨t, r, e⟩ := TD_shape hx ha
      injection e with e1 e2
      subst e1 e2
      rw [TD_node hx] at ha
      rw [List.cons_append, List.cons_append, TD_node hx]
      exact ⟨ha.1, ha.2.1, ha.2.2.1, TD_append ha.2.2.2 hb⟩
theorem united_one : ∀ c ∈ SG, united [] [c] = [c] := by decide +kernel
theorem bg_text {t : T} {ns : List Node} (h : t ≠ []) (hs : allSG t = true) : bgL (.text t :: ns) [] = (t.take 1, false) := by
  cases t with
  | nil => exact absurd rfl h
  | cons c r =>
    show (if (bgN (.text (c :: r))).2 then bgL ns (united [] (bgN (.text (c :: r))).1) else (united [] (bgN (.text (c :: r))).1, false)) = _
    show (united [] [c], false) = _
    rw [united_one c (allSG_cons.mp hs).1]; rfl
theorem side_text {t : T} {ns : List Node} {fo : Fo} (h : t ≠ []) (hs : allSG t = true) : sideB (.text t :: ns) fo = (t.take 1, false) := by
  unfold sideB
  rw [bg_text h hs]; rfl
theorem TD_clear : ∀ {ns : List Node} (fo : Fo), TD ns → clL ns fo = true ∧ vaL ns
  | [], fo, _ => by unfold clL vaL; exact ⟨rfl, trivial⟩
  | [x], fo, h => by
    cases hx : isText x with
    | true =>
      cases x with
      | text t =>
        rw [TD_text] at h
        unfold clL vaL clN vaN clL vaL
        exact ⟨rfl, h.1, trivial⟩
      | _ => cases hx
    | false => obtain ⟨t, r, e⟩ := TD_shape hx h; cases e
  | x :: y :: A, fo, h => by
    cases hx : isText x with
    | true =>
      cases x with
      | text t =>
        rw [TD_text] at h
        have ih := TD_clear fo h.2
        rw [clL, vaL, clN, vaN]
        exact ⟨by rw [ih.1]; rfl, h.1, ih.2⟩
      | _ => cases hx
    | false =>
      obtain ⟨t, r, e⟩ := TD_shape hx h
      injection e with e1 e2
      subst e1 e2
      rw [TD_node hx] at h
      have ih := TD_clear fo h.2.2.2
      rw [clL, vaL, clL, vaL, side_text h.1.1 h.1.2, h.2.2.1, clN, vaN, ih.1]
      exact ⟨rfl, h.2.1, h.1, ih.2⟩
theorem one_TD : ∀ {L : List Node}, TD L → TD (one L)
  | [], h => h
  | [x], h => by
    cases hx : isText x with
    | true =>
      cases x with
      | text t => exact h
      | _ => cases hx
    | false => obtain ⟨t, r, e⟩ := TD_shape hx h; cases e
  | x :: y :: A, h => by
    have txt : ∀ (t : T) (r : List Node), (t ≠ [] ∧ allSG t = true) → TD (one r) → ∃ b r', one (.text t :: r) = .text (t ++ b) :: r' ∧ allSG (t ++ b) = true ∧ TD r' := by
      intro t r ht hr
      rcases one_text t r with ⟨b, r', h1, h2⟩ | ⟨_, h2⟩
      · rw [h1, TD_text] at hr
        exact ⟨b, r', h2, allSG_app.mpr ⟨ht.2, hr.1.2⟩, hr.2⟩
      · exact ⟨[], one r, by rw [h2, List.append_nil], by rw [List.append_nil]; exact ht.2, hr⟩
    cases hx : isText x with
    | true =>
      cases x with
      | text t =>
        rw [TD_text] at h
        obtain ⟨b, r', h1, h2, h3⟩ := txt t (y :: A) h.1 (one_TD h.2)
        rw [h1, TD_text]
        exact ⟨⟨by simp [h.1.1], h2⟩, h3⟩
      | _ => cases hx
    | false =>
      obtain ⟨t, r, e⟩ := TD_shape hx h
      injection e with e1 e2
      subst e1 e2
      rw [TD_node hx] at h
      obtain ⟨b, r', h1, h2, h3⟩ := txt t A h.1 (one_TD h.2.2.2)
      rw [one_node hx, h1, TD_node hx]
      refine ⟨⟨by simp [h.1.1], h2⟩, h.2.1, ?_, h3⟩
      have : (t ++ b).take 1 = t.take 1 := by
        cases t with
        | nil => exact absurd rfl h.1.1
        | cons c q => rfl
      rw [this]
      exact h.2.2.1
/-- a list that begins with a text -/
theorem one_begin {t : T} {L : List Node} (ht : t ≠ [] ∧ allSG t = true) (h : TD L) : bgL (one (.text t :: L)) [] = (t.take 1, false) ∧ ∀ fo, sideB (one (.text t :: L)) fo = (t.take 1, false) := by
  have key : ∃ b r', one (.text t :: L) = .text (t ++ b) :: r' ∧ allSG (t ++ b) = true := by
    have hr := one_TD h
    rcases one_text t L with ⟨b, r', h1, h2⟩ | ⟨_, h2⟩
    · rw [h1, TD_text] at hr
      exact ⟨b, r', h2, allSG_app.mpr ⟨ht.2, hr.1.2⟩⟩
    · exact ⟨[], one L, by rw [h2, List.append_nil], by rw [List.append_nil]; exact ht.2⟩
  obtain ⟨b, r', h1, h2⟩ := key
  have h3 : (t ++ b).take 1 = t.take 1 := by
    cases t with
    | nil => exact absurd rfl ht.1
    | cons c q => rfl
  have h4 : t ++ b ≠ [] := by simp [ht.1]
  rw [h1]
  exact ⟨by rw [bg_text h4 h2, h3], fun fo => by rw [side_text h4 h2, h3]⟩
theorem td_place {p : List T} {w : Way} {t : T} {c : Nat} (hc : c ∈ ends w) (hS : c ∈ SG) (ht : allSG t = true) : TD [.place p w, .text (c :: t)] := by
  rw [TD_node rfl]
  refine ⟨⟨by simp, allSG_cons.mpr ⟨hS, ht⟩⟩, by unfold vaN; trivial, ?_, trivial⟩
  unfold clN
  simp [hc]
theorem td_loop {nm : T} {p : List T} {L : List Node} {star close : Nat} {btw : T} (hs : star ∈ SG) (hc : close ∈ SG) (hb : allSG btw = true) (hne : star ≠ close) (hnb : ∀ d r, btw = d :: r → d ≠ close) (h : TD L) :
    TD [.loop nm p (one (.text [star] :: L)) btw, .text [close]] := by
  have hst : ([star] : T) ≠ [] ∧ allSG [star] = true := ⟨by simp, allSG_cons.mpr ⟨hs, rfl⟩⟩
  have hT : TD (one (.text [star] :: L)) := one_TD (TD_text.mpr ⟨hst, h⟩)
  have hB := (one_begin hst h).1
  rw [TD_node rfl]
  refine ⟨⟨by simp, allSG_cons.mpr ⟨hc, rfl⟩⟩, ?_, ?_, trivial⟩
  · unfold vaN; exact ⟨(TD_clear ([], true) hT).2, hb⟩
  · unfold clN
    rw [hB, if_neg]
    · exact (TD_clear _ hT).1
    · simp only [Bool.false_or, common, List.any_append, Bool.or_eq_true, not_or, Bool.not_eq_true]
      refine ⟨by simp [hne], ?_⟩
      cases btw with
      | nil => rfl
      | cons d r => simp [hnb d r rfl]
/-- one side of a choice: empty, or a text ahead -/
def sideOf (m : Nat) (L : Option (List Node)) : List Node := match L with
  | none => []
  | some L => one (.text [m] :: L)
theorem td_choice {p : List T} {L1 L2 : Option (List Node)} {m1 m2 m3 : Nat} (h1 : m1 ∈ SG) (h2 : m2 ∈ SG) (h3 : m3 ∈ SG) (d12 : m1 ≠ m2) (d13 : m1 ≠ m3) (d23 : m2 ≠ m3) (hL1 : ∀ L, L1 = some L → TD L) (hL2 : ∀ L, L2 = some L → TD L)
    (hn : L1 ≠ none ∨ L2 ≠ none) : TD [.choice p (sideOf m1 L1) (sideOf m2 L2), .text [m3]] := by
  have hst : ∀ m, m ∈ SG → (([m] : T) ≠ [] ∧ allSG [m] = true) := fun m hm => ⟨by simp, allSG_cons.mpr ⟨hm, rfl⟩⟩
  have hT : ∀ (m : Nat) (L : Option (List Node)), m ∈ SG → (∀ l, L = some l → TD l) → TD (sideOf m L) := by
    intro m L hm hl
    cases L with
    | none => exact trivial
    | some l => exact one_TD (TD_text.mpr ⟨hst m hm, hl l rfl⟩)
  have hB : ∀ (m : Nat) (L : Option (List Node)), m ∈ SG → (∀ l, L = some l → TD l) → sideB (sideOf m L) ([m3], false) = (if L = none then [m3] else [m], false) := by
    intro m L hm hl
    cases L with
    | none =>
      show sideB [] ([m3], false) = ([m3], false)
      unfold sideB
      show (if (bgL [] []).2 = true then (united (bgL [] []).1 [m3], false) else _) = _
      show (united [] [m3], false) = _
      rw [united_one m3 h3]
    | some l =>
      rw [if_neg (by simp)]
      exact (one_begin (hst m hm) (hl l rfl)).2 _
  rw [TD_node rfl]
  refine ⟨hst m3 h3, ?_, ?_, trivial⟩
  · unfold vaN; exact ⟨(TD_clear ([], true) (hT m1 L1 h1 hL1)).2, (TD_clear ([], true) (hT m2 L2 h2 hL2)).2⟩
  · unfold clN
    show (if common (sideB (sideOf m1 L1) ([m3], false)).1 (sideB (sideOf m2 L2) ([m3], false)).1 || ((sideB (sideOf m1 L1) ([m3], false)).2 && (sideB (sideOf m2 L2) ([m3], false)).2) then false else clL (sideOf m1 L1) ([m3], false) && clL (sideOf m2 L2) ([m3], false)) = true
    rw [hB m1 L1 h1 hL1, hB m2 L2 h2 hL2, if_neg, (TD_clear _ (hT m1 L1 h1 hL1)).1, (TD_clear _ (hT m2 L2 h2 hL2)).1]
    · rfl
    · simp only [Bool.false_and, Bool.or_false, common, Bool.not_eq_true]
      by_cases e1 : L1 = none
      · have e2 : L2 ≠ none := hn.resolve_left (fun q => q e1)
        rw [if_pos e1, if_neg e2]
        simp [Ne.symm d23]
      · rw [if_neg e1]
        by_cases e2 : L2 = none
        · rw [if_pos e2]; simp [d13]
        · rw [if_neg e2]; simp [d12]
end K16
end

section
set_option maxHeartbeats 4000000
/-! M5: sizes: how many cells a fill draws, how many rounds it has, how long the text is. Plain Lean. -/
namespace K16
/-! ### depth -/
mutual
def dpN : Node → Nat
  | .text _ => 0
  | .place _ _ => 0
  | .loop _ _ b _ => 1 + dpL b
  | .choice _ y n => 1 + max (dpL y) (dpL n)
def dpL : List Node → Nat
  | [] => 0
  | n :: ns => max (dpN n) (dpL ns)
end
theorem dpL_le {d : Nat} : ∀ {ns : List Node}, dpL ns ≤ d ↔ ∀ n ∈ ns, dpN n ≤ d
  | [] => by unfold dpL; simp
  | n :: ns => by unfold dpL; rw [Nat.max_le, dpL_le]; simp
/-! ### draws: without any round; behind the 150th cell -/
mutual
def pdN : Node → Nat
  | .text _ => 0
  | .place _ _ => 1
  | .loop _ _ _ _ => 1
  | .choice _ y n => 1 + max (pdL y) (pdL n)
def pdL : List Node → Nat
  | [] => 0
  | n :: ns => pdN n + pdL ns
end
mutual
def rbN : Node → Nat
  | .text _ => 0
  | .place _ _ => 1
  | .loop _ _ b _ => 1 + rbL b + 43 * pdL b
  | .choice _ y n => 1 + max (rbL y) (rbL n)
def rbL : List Node → Nat
  | [] => 0
  | n :: ns => max (rbN n + pdL ns) (rbL ns)
end
mutual
theorem pd_le_rbN : ∀ n : Node, pdN n ≤ rbN n
  | .text _ => by simp [pdN]
  | .place _ _ => by simp [pdN, rbN]
  | .loop _ _ b _ => by simp only [pdN, rbN]; omega
  | .choice _ y n => by
    have h1 := pd_le_rbL y
    have h2 := pd_le_rbL n
    simp only [pdN, rbN]; omega
theorem pd_le_rbL : ∀ ns : List Node, pdL ns ≤ rbL ns
  | [] => by simp [pdL]
  | n :: ns => by
    have h1 := pd_le_rbN n
    have h2 := pd_le_rbL ns
    simp only [pdL, rbL]; omega
end
theorem pdL_snoc (n : Node) : ∀ ns : List Node, pdL (ns ++ [n]) = pdL ns + pdN n
  | [] => by simp [pdL]
  | m :: ns => by rw [List.cons_append, pdL, pdL, pdL_snoc n ns]; omega
theorem rbL_snoc (n : Node) : ∀ ns : List Node, rbL (ns ++ [n]) = max (rbL ns + pdN n) (rbN n)
  | [] => by have := pd_le_rbN n; simp [rbL, pdL]; omega
  | m :: ns => by rw [List.cons_append, rbL, rbL, rbL_snoc n ns, pdL_snoc]; omega
mutual
def dF : Fill → Nat
  | .val _ => 1
  | .rounds rs => 1 + dR rs
  | .side _ fs => 1 + dFs fs
def dFs : List Fill → Nat
  | [] => 0
  | f :: fs => dF f + dFs fs
def dR : List (List Fill) → Nat
  | [] => 0
  | r :: rs => dFs r + dR rs
end
mutual
def rF : Fill → Nat
  | .val _ => 0
  | .rounds rs => rs.length + rR rs
  | .side _ fs => rFs fs
def rFs : List Fill → Nat
  | [] => 0
  | f :: fs => rF f + rFs fs
def rR : List (List Fill) → Nat
  | [] => 0
  | r :: rs => rFs r + rR rs
end
theorem dFs_snoc (f : Fill) : ∀ fs : List Fill, dFs (fs ++ [f]) = dFs fs + dF f
  | [] => by simp [dFs]
  | g :: fs => by rw [List.cons_append, dFs, dFs, dFs_snoc f fs]; omega
theorem rFs_snoc (f : Fill) : ∀ fs : List Fill, rFs (fs ++ [f]) = rFs fs + rF f
  | [] => by simp [rFs]
  | g :: fs => by rw [List.cons_append, rFs, rFs, rFs_snoc f fs]; omega
theorem dR_snoc (f : List Fill) : ∀ fs : List (List Fill), dR (fs ++ [f]) = dR fs + dFs f
  | [] => by simp [dR]
  | g :: fs => by rw [List.cons_append, dR, dR, dR_snoc f fs]; omega
theorem rR_snoc (f : List Fill) : ∀ fs : List (List Fill), rR (fs ++ [f]) = rR fs + rFs f
  | [] => by simp [rR]
  | g :: fs => by rw [List.cons_append, rR, rR, rR_snoc f fs]; omega
theorem okL_text {t : T} : ∀ {ns : List Node} {fs : List Fill}, okL (ns ++ [.text t]) fs ↔ okL ns fs
  | [], fs => by cases fs <;> simp [okL]
  | .text u :: ns, fs => by rw [List.cons_append, okL, okL]; exact okL_text
  | .place p w :: ns, [] => by rw [List.cons_append]; simp [okL]
  | .loop a p b c :: ns, [] => by rw [List.cons_append]; simp [okL]
  | .choice p y n :: ns, [] => by rw [List.cons_append]; simp [okL]
  | .place p w :: ns, f :: fs => by rw [List.cons_append, okL, okL, okL_text] <;> (intro t h; cases h)
  | .loop a p b c :: ns, f :: fs => by rw [List.cons_append, okL, okL, okL_text] <;> (intro t h; cases h)
  | .choice p y n :: ns, f :: fs => by rw [List.cons_append, okL, okL, okL_text] <;> (intro t h; cases h)
theorem okL_one {n : Node} {f : Fill} (hn : isText n = false) : okL [n] [f] ↔ okN n f := by
  cases n <;> first | (cases hn; done) | simp [okL]
theorem okL_snoc {n : Node} {f : Fill} (hn : isText n = false) : ∀ {ns : List Node} {fs : List Fill}, okL ns fs → okN n f → okL (ns ++ [n]) (fs ++ [f])
  | [], [], _, h => (okL_one hn).mpr h
  | [], g :: fs, h, _ => by simp [okL] at h
  | .text u :: ns, fs, h, h2 => by rw [okL] at h; rw [List.cons_append, okL]; exact okL_snoc hn h h2
  | .place p w :: ns, [], h, _ => by simp [okL] at h
  | .loop a p b c :: ns, [], h, _ => by simp [okL] at h
  | .choice p y n :: ns, [], h, _ => by simp [okL] at h
  | .place p w :: ns, g :: fs, h, h2 => by
    have h' : okN (.place p w) g ∧ okL ns fs := h
    exact ⟨h'.1, okL_snoc hn h'.2 h2⟩
  | .loop a p b c :: ns, g :: fs, h, h2 => by
    have h' : okN (.loop a p b c) g ∧ okL ns fs := h
    exact ⟨h'.1, okL_snoc hn h'.2 h2⟩
  | .choice p y n' :: ns, g :: fs, h, h2 => by
    have h' : okN (.choice p y n') g ∧ okL ns fs := h
    exact ⟨h'.1, okL_snoc hn h'.2 h2⟩
/-! ### what drawing gives -/
structure Dr (k : Nat) (ns : List Node) (fs : List Fill) (k' : Nat) : Prop where
  ok : okL ns fs
  cnt : k' = k + dFs fs
  rnd : rFs fs ≤ 43 * (min k' 150 - min k 150)
  beh : 150 ≤ k → k' ≤ k + pdL ns
  all : k' ≤ max k 150 + rbL ns
structure DrN (k : Nat) (n : Node) (f : Fill) (k' : Nat) : Prop where
  ok : okN n f
  cnt : k' = k + dF f
  rnd : rF f ≤ 43 * (min k' 150 - min k 150)
  beh : 150 ≤ k → k' ≤ k + pdN n
  all : k' ≤ max k 150 + rbN n
/-- rounds -/
structure DrR (k : Nat) (b : List Node) (rs : List (List Fill)) (k' : Nat) : Prop where
  ok : ∀ r ∈ rs, okL b r
  cnt : k' = k + dR rs
  rnd : rR rs ≤ 43 * (min k' 150 - min k 150)
  all : k' ≤ max k 150 + rbL b + rs.length * pdL b
theorem Dr.nil (k : Nat) : Dr k [] [] k := ⟨by unfold okL; trivial, by simp [dFs], by simp [rFs], fun _ => by simp [pdL], by simp [rbL]; omega⟩
theorem Dr.text {k k' : Nat} {ns : List Node} {fs : List Fill} {t : T} (h : Dr k ns fs k') : Dr k (ns ++ [.text t]) fs k' :=
  ⟨okL_text.mpr h.ok, h.cnt, h.rnd, fun q => by rw [pdL_snoc]; simp only [pdN]; exact h.beh q, by rw [rbL_snoc]; have := h.all; simp only [pdN, rbN]; omega⟩
theorem Dr.snoc {k k1 k2 : Nat} {ns : List Node} {fs : List Fill} {n : Node} {f : Fill} (hn : isText n = false) (h : Dr k ns fs k1) (h2 : DrN k1 n f k2) : Dr k (ns ++ [n]) (fs ++ [f]) k2 := by
  obtain ⟨a1, a2, a3, a4, a5⟩ := h
  obtain ⟨b1, b2, b3, b4, b5⟩ := h2
  refine ⟨okL_snoc hn a1 b1, ?_, ?_, fun q => ?_, ?_⟩
  · rw [dFs_snoc]; omega
  · rw [rFs_snoc]; omega
  · rw [pdL_snoc]
    have := a4 q
    have := b4 (by omega)
    omega
  · rw [rbL_snoc]
    by_cases h : 150 ≤ k1
    · have := b4 h; omega
    · omega
theorem DrN.place {k : Nat} {p : List T} {w : Way} {v : Vl} (h : fits w v = true) : DrN k (.place p w) (.val v) (k + 1) :=
  ⟨by unfold okN; exact h, by simp [dF], by simp [rF], fun _ => by simp [pdN], by simp only [rbN]; omega⟩
theorem DrN.choice {k k' : Nat} {p : List T} {y n : List Node} {b : Bool} {fs : List Fill} (h : Dr (k + 1) (if b then y else n) fs k') : DrN k (.choice p y n) (.side b fs) k' := by
  obtain ⟨a1, a2, a3, a4, a5⟩ := h
  refine ⟨by unfold okN; cases b <;> exact a1, ?_, ?_, fun q => ?_, ?_⟩
  · simp only [dF]; omega
  · simp only [rF]; omega
  · have := a4 (by omega)
    simp only [pdN]
    cases b <;> simp at this <;> omega
  · simp only [rbN]
    cases b <;> simp at a5 <;> omega
theorem DrR.nil (k : Nat) (b : List Node) : DrR k b [] k := ⟨fun r h => by simp at h, by simp [dR], by simp [rR], by simp; omega⟩
theorem DrR.snoc {k k1 k2 : Nat} {b : List Node} {rs : List (List Fill)} {fs : List Fill} (h : DrR k b rs k1) (h2 : Dr k1 b fs k2) : DrR k b (rs ++ [fs]) k2 := by
  obtain ⟨a1, a2, a3, a5⟩ := h
  obtain ⟨b1, b2, b3, b4, b5⟩ := h2
  refine ⟨fun r hr => ?_, ?_, ?_, ?_⟩
  · rcases List.mem_append.mp hr with hr | hr
    · exact a1 r hr
    · rw [List.mem_singleton.mp hr]; exact b1
  · rw [dR_snoc]; omega
  · rw [rR_snoc]; omega
  · rw [List.length_append, List.length_singleton, Nat.add_mul, Nat.one_mul]
    by_cases h : 150 ≤ k1
    · have := b4 h; omega
    · generalize rs.length * pdL b = z at *; omega
theorem DrN.loop {k k' : Nat} {nm : T} {p : List T} {b : List Node} {btw : T} {rs : List (List Fill)} (h : DrR (k + 1) b rs k') (hm : rs.length ≤ 43) (h0 : rs ≠ [] → k + 1 < 150) : DrN k (.loop nm p b btw) (.rounds rs) k' := by
  obtain ⟨a1, a2, a3, a5⟩ := h
  cases rs with
  | nil =>
    simp [dR] at a2
    exact ⟨by unfold okN; exact a1, by simp [dF, dR]; omega, by simp [rF, rR], fun _ => by simp [pdN]; omega, by simp only [rbN]; omega⟩
  | cons r rs =>
    have hk := h0 (by simp)
    refine ⟨by unfold okN; exact a1, by simp only [dF]; omega, ?_, fun q => by omega, ?_⟩
    · simp only [rF]; omega
    · simp only [rbN]
      have : (r :: rs).length * pdL b ≤ 43 * pdL b := Nat.mul_le_mul_right _ hm
      omega
/-! ### how long -/
def txN : Node → Nat
  | .text t => t.length
  | _ => 0
def txL (ns : List Node) : Nat := (ns.map txN).sum
mutual
def tkN (K : Nat) : Node → Prop
  | .text _ => True
  | .place _ _ => True
  | .loop _ _ b btw => tkL K b ∧ txL b ≤ K ∧ btw.length ≤ K
  | .choice _ y n => (tkL K y ∧ txL y ≤ K) ∧ (tkL K n ∧ txL n ≤ K)
def tkL (K : Nat) : List Node → Prop
  | [] => True
  | n :: ns => tkN K n ∧ tkL K ns
end
theorem tkL_iff {K : Nat} : ∀ {ns : List Node}, tkL K ns ↔ ∀ n ∈ ns, tkN K n
  | [] => by unfold tkL; simp
  | n :: ns => by unfold tkL; rw [tkL_iff]; simp
theorem flat_len {esc : Nat → T} (h : ∀ c, (esc c).length ≤ 2) : ∀ t : T, (t.flatMap esc).length ≤ 2 * t.length
  | [] => by simp
  | c :: r => by rw [List.flatMap_cons, List.length_append, List.length_cons]; have := h c; have := flat_len h r; omega
theorem escQ_two (c : Nat) : (escQ c).length ≤ 2 := by
  unfold escQ
  repeat' split
  all_goals simp
theorem escP_two (c : Nat) : (escP c).length ≤ 2 := by
  unfold escP
  repeat' split
  all_goals simp
theorem escL_two (c : Nat) : (escL c).length ≤ 2 := by
  unfold escL
  repeat' split
  all_goals simp
theorem marked_len {w : Way} {v : Vl} (h : fits w v = true) : (marked w v).length ≤ 802 := by
  cases w <;> cases v <;> simp [fits] at h
  · show List.length _ ≤ _
    simp only [marked]; omega
  · rename_i i
    show (shI i).length ≤ 802
    have : (TL.numL i.natAbs).length ≤ 30 := TL.numL_len (by decide) (by omega)
    unfold shI; split
    · rw [List.length_cons]; omega
    · omega
  · rename_i t
    show (34 :: (t.flatMap escQ ++ [34])).length ≤ 802
    have := flat_len (esc := escQ) escQ_two t
    simp only [List.length_cons, List.length_append, List.length_nil]; omega
  · rename_i t
    show (t.flatMap escP).length ≤ 802
    have := flat_len (esc := escP) escP_two t
    omega
  · rename_i t
    show (t.flatMap escL).length ≤ 802
    have := flat_len (esc := escL) escL_two t
    omega
theorem join_len {btw : T} : ∀ (l : List T), (join btw l).length ≤ (l.map List.length).sum + l.length * btw.length
  | [] => by simp [join]
  | [a] => by simp [join]
  | a :: b :: r => by
    have := join_len (btw := btw) (b :: r)
    show (a ++ (btw ++ join btw (b :: r))).length ≤ _
    rw [List.length_append, List.length_append, List.map_cons, List.sum_cons, List.length_cons (as := b :: r), Nat.add_mul, Nat.one_mul]
    omega
mutual
theorem spN_len (K : Nat) : ∀ (n : Node) (f : Fill), tkN K n → okN n f → (spN n f).length ≤ 802 * dF f + K * (dF f + 2 * rF f)
  | .text _, f, _, h => by cases f <;> simp [okN] at h
  | .place _ w, f, _, h => by
    cases f with
    | val v =>
      unfold okN at h; unfold spN
      have := marked_len h
      simp only [dF, rF]; omega
    | _ => simp [okN] at h
  | .loop _ _ b btw, f, hk, h => by
    have ih := spL_len K b
    cases f with
    | rounds rs =>
      unfold okN at h; unfold spN; unfold tkN at hk
      have key : ∀ rs : List (List Fill), (∀ r ∈ rs, okL b r) → ((rs.map fun r => spL b r).map List.length).sum ≤ 802 * dR rs + K * (rs.length + dR rs + 2 * rR rs) := by
        intro rs
        induction rs with
        | nil => intro _; simp
        | cons r rs ih2 =>
          intro h
          have h1 := ih r hk.1 (h r (List.mem_cons_self ..))
          have h2 := ih2 (fun q hq => h q (List.mem_cons_of_mem _ hq))
          simp only [List.map_cons, List.sum_cons, dR, rR, List.length_cons]
          have e : K * (rs.length + 1 + (dFs r + dR rs) + 2 * (rFs r + rR rs)) = K * (dFs r + 2 * rFs r) + K + K * (rs.length + dR rs + 2 * rR rs) := by
            simp only [Nat.mul_add, Nat.mul_one]; omega
          rw [e]; omega
      have h1 := key rs h
      have h2 := join_len (btw := btw) (rs.map fun r => spL b r)
      rw [List.length_map] at h2
      have h3 : rs.length * btw.length ≤ rs.length * K := Nat.mul_le_mul_left _ hk.2.2
      simp only [dF, rF]
      have e : K * (1 + dR rs + 2 * (rs.length + rR rs)) = K + K * (rs.length + dR rs + 2 * rR rs) + rs.length * K := by
        simp only [Nat.mul_add, Nat.mul_one, Nat.mul_comm rs.length K, Nat.two_mul]; omega
      rw [e]; omega
    | _ => simp [okN] at h
  | .choice _ y n, f, hk, h => by
    have ihy := spL_len K y
    have ihn := spL_len K n
    cases f with
    | side c fs =>
      unfold okN at h; unfold spN; unfold tkN at hk
      simp only [dF, rF]
      have e : K * (1 + dFs fs + 2 * rFs fs) = K + K * (dFs fs + 2 * rFs fs) := by simp only [Nat.mul_add, Nat.mul_one]; omega
      rw [e]
      cases c with
      | true => have := ihy fs hk.1.1 h; have := hk.1.2; simp only [if_true]; omega
      | false => have := ihn fs hk.2.1 h; have := hk.2.2; simp only [Bool.false_eq_true, if_false]; omega
    | _ => simp [okN] at h
theorem spL_len (K : Nat) : ∀ (ns : List Node) (fs : List Fill), tkL K ns → okL ns fs → (spL ns fs).length ≤ txL ns + 802 * dFs fs + K * (dFs fs + 2 * rFs fs)
  | [], fs, _, _ => by unfold spL; simp
  | .text t :: ns, fs, hk, h => by
    have ih := spL_len K ns
    rw [okL] at h; rw [spL]; rw [tkL] at hk
    have := ih fs hk.2 h
    have e : txL (.text t :: ns) = t.length + txL ns := by simp [txL, txN]
    rw [List.length_append, e]; omega
  | .place p w :: ns, fs, hk, h => by
    have ih := spL_len K ns
    have ihn := spN_len K (.place p w)
    cases fs with
    | nil => simp [okL] at h
    | cons f fs =>
      have h' : okN (.place p w) f ∧ okL ns fs := h
      rw [spL_place]; rw [tkL] at hk
      have h1 := ihn f hk.1 h'.1
      have h2 := ih fs hk.2 h'.2
      have e : txL (.place p w :: ns) = txL ns := by simp [txL, txN]
      rw [List.length_append, e]
      simp only [dFs, rFs]
      have e2 : K * (dF f + dFs fs + 2 * (rF f + rFs fs)) = K * (dF f + 2 * rF f) + K * (dFs fs + 2 * rFs fs) := by simp only [Nat.mul_add]; omega
      rw [e2]; omega
  | .loop a p b c :: ns, fs, hk, h => by
    have ih := spL_len K ns
    have ihn := spN_len K (.loop a p b c)
    cases fs with
    | nil => simp [okL] at h
    | cons f fs =>
      have h' : okN (.loop a p b c) f ∧ okL ns fs := h
      rw [spL_loop]; rw [tkL] at hk
      have h1 := ihn f hk.1 h'.1
      have h2 := ih fs hk.2 h'.2
      have e : txL (.loop a p b c :: ns) = txL ns := by simp [txL, txN]
      rw [List.length_append, e]
      simp only [dFs, rFs]
      have e2 : K * (dF f + dFs fs + 2 * (rF f + rFs fs)) = K * (dF f + 2 * rF f) + K * (dFs fs + 2 * rFs fs) := by simp only [Nat.mul_add]; omega
      rw [e2]; omega
  | .choice p y n :: ns, fs, hk, h => by
    have ih := spL_len K ns
    have ihn := spN_len K (.choice p y n)
    cases fs with
    | nil => simp [okL] at h
    | cons f fs =>
      have h' : okN (.choice p y n) f ∧ okL ns fs := h
      rw [spL_choice]; rw [tkL] at hk
      have h1 := ihn f hk.1 h'.1
      have h2 := ih fs hk.2 h'.2
      have e : txL (.choice p y n :: ns) = txL ns := by simp [txL, txN]
      rw [List.length_append, e]
      simp only [dFs, rFs]
      have e2 : K * (dF f + dFs fs + 2 * (rF f + rFs fs)) = K * (dF f + 2 * rF f) + K * (dFs fs + 2 * rFs fs) := by simp only [Nat.mul_add]; omega
      rw [e2]; omega
end
/-! ### lists short, loops not void -/
mutual
def shN : Node → Prop
  | .text _ => True
  | .place _ _ => True
  | .loop _ _ b _ => shL b
  | .choice _ y n => shL y ∧ shL n
def shL : List Node → Prop
  | [] => True
  | n :: ns => (shN n ∧ ns.length ≤ 1000) ∧ shL ns
end
theorem shL_len : ∀ {ns : List Node}, shL ns → ns.length ≤ 1001
  | [], _ => by simp
  | n :: ns, h => by unfold shL at h; simp; omega
theorem shL_of : ∀ {ns : List Node}, ns.length ≤ 1001 → (∀ n ∈ ns, shN n) → shL ns
  | [], _, _ => by unfold shL; trivial
  | n :: ns, h, q => by
    unfold shL
    simp at h
    exact ⟨⟨q n (List.mem_cons_self ..), h⟩, shL_of (by omega) fun m hm => q m (List.mem_cons_of_mem _ hm)⟩
theorem shL_mem : ∀ {ns : List Node}, shL ns → ∀ n ∈ ns, shN n
  | [], _, n, hn => by cases hn
  | m :: ns, h, n, hn => by
    unfold shL at h
    rcases List.mem_cons.mp hn with e | hn
    · rw [e]; exact h.1.1
    · exact shL_mem h.2 n hn
mutual
def nvN : Node → Prop
  | .text _ => True
  | .place _ _ => True
  | .loop _ _ b _ => (bgL b []).2 = false ∧ nvL b
  | .choice _ y n => nvL y ∧ nvL n
def nvL : List Node → Prop
  | [] => True
  | n :: ns => nvN n ∧ nvL ns
end
mutual
theorem clN_nv : ∀ (n : Node) (fo : Fo), clN n fo = true → nvN n
  | .text _, _, _ => by unfold nvN; trivial
  | .place _ _, _, _ => by unfold nvN; trivial
  | .loop _ _ b btw, fo, h => by
    have ih := clL_nv b
    unfold clN at h; unfold nvN
    split at h
    · cases h
    · rename_i hn
      exact ⟨(or_false2 hn).1, ih _ h⟩
  | .choice _ y n, fo, h => by
    have ihy := clL_nv y
    have ihn := clL_nv n
    unfold clN at h; unfold nvN
    split at h
    · cases h
    · obtain ⟨h1, h2⟩ := Bool.and_eq_true_iff.mp h
      exact ⟨ihy _ h1, ihn _ h2⟩
theorem clL_nv : ∀ (ns : List Node) (fo : Fo), clL ns fo = true → nvL ns
  | [], _, _ => by unfold nvL; trivial
  | n :: ns, fo, h => by
    have ih := clL_nv ns
    have ihn := clN_nv n
    rw [clL] at h; unfold nvL
    obtain ⟨h1, h2⟩ := Bool.and_eq_true_iff.mp h
    exact ⟨ihn _ h1, ih _ h2⟩
end
/-- rounds that are not void: no more than signs -/
theorem rounds_le {b : List Node} {btw : T} (hv : vaL b) (hn : (bgL b []).2 = false) : ∀ (rs : List (List Fill)), (∀ r ∈ rs, okL b r) → rs.length ≤ (join btw (rs.map fun r => spL b r)).length := by
  have ne : ∀ r, okL b r → 1 ≤ (spL b r).length := fun r h => by
    have z := spL_begin b r hv h
    have : spL b r ≠ [] := fun e => by rw [z.2 e] at hn; cases hn
    exact List.length_pos_iff.mpr this
  intro rs
  cases rs with
  | nil => intro _; simp
  | cons r rs =>
    intro h
    rw [List.map_cons, join_cons, List.length_append, List.length_cons]
    have h1 := ne r (h r (List.mem_cons_self ..))
    have key : ∀ rs : List (List Fill), (∀ q ∈ rs, okL b q) → rs.length ≤ ((rs.map fun r => spL b r).map (fun x => btw ++ x)).flatten.length := by
      intro rs
      induction rs with
      | nil => intro _; simp
      | cons q rs ih =>
        intro h
        have h1 := ne q (h q (List.mem_cons_self ..))
        have h2 := ih (fun p hp => h p (List.mem_cons_of_mem _ hp))
        simp only [List.map_cons, List.flatten_cons, List.length_append, List.length_cons]
        omega
    have h2 := key rs (fun q hq => h q (List.mem_cons_of_mem _ hq))
    omega
end K16
end

section
set_option maxHeartbeats 4000000
/-! M6: find, strip, replace of texts as lists. Plain Lean. -/
namespace K16
open PySem SX PySem.NumText L2 StrLaws
theorem spn_first {p : Nat → Bool} : ∀ {l : T} {k : Nat}, k ≤ l.length → (∀ i c, i < k → l[i]? = some c → p c = true) → (∀ c, l[k]? = some c → p c = false) → spn p l = (l.take k, l.drop k)
  | [], k, hk, _, _ => by simp at hk; subst hk; rfl
  | c :: l, 0, _, _, h => by unfold spn; rw [if_neg (by rw [h c rfl]; simp)]; rfl
  | c :: l, k + 1, hk, h1, h2 => by
    unfold spn
    rw [if_pos (h1 0 c (by omega) rfl), spn_first (k := k) (by simpa using hk) (fun i d hi hd => h1 (i + 1) d (by omega) (by simpa using hd)) (fun d hd => h2 d (by simpa using hd))]
    rfl
theorem spn_step {p : Nat → Bool} {s : T} {i c : Nat} (h : s[i]? = some c) : spn p (s.drop i) = if p c then (c :: (spn p (s.drop (i + 1))).1, (spn p (s.drop (i + 1))).2) else ([], s.drop i) := by
  obtain ⟨hl, e⟩ := List.getElem?_eq_some_iff.mp h
  rw [List.drop_eq_getElem_cons hl, e]
  rfl
theorem spn_end {p : Nat → Bool} {s : T} {i : Nat} (h : s.length ≤ i) : spn p (s.drop i) = ([], []) := by rw [List.drop_eq_nil_of_le h]; rfl
theorem lstripM_take : ∀ t : T, lstripM t = t.drop (t.takeWhile (fun c => [45].contains c)).length
  | [] => rfl
  | c :: t => by
    by_cases h : c = 45
    · subst h
      show lstripM t = _
      rw [lstripM_take t]; rfl
    · unfold lstripM
      have : [45].contains c = false := by simp [h]
      rw [List.takeWhile_cons, this]
      split
      · rename_i e; exact absurd (List.cons.inj e).1 h
      · rfl
theorem lstrip_list (t : T) : (Txt.lstripChars (S t) (S [45])).cps.toList = lstripM t := by
  rw [lstripM_take]
  have hg : (S [45]).cps.contains = fun c => [45].contains c := by funext c; simp [S]
  have hlo : stripLo (S [45]).cps.contains true (S t) = (t.takeWhile (fun c => [45].contains c)).length := by rw [hg]; rfl
  unfold Txt.lstripChars Txt.stripBy
  split
  · rename_i h
    unfold stripSame at h
    simp only [Bool.and_eq_true, beq_iff_eq] at h
    rw [hlo] at h
    rw [h.1]; rfl
  · unfold stripped
    rw [StrLaws.strSub_toList, hlo]
    show (t.drop _).take (t.length - _) = _
    rw [List.take_of_length_le (by rw [List.length_drop]; exact Nat.le_refl _)]
theorem getD_S {t : T} {i c : Nat} (h : t[i]? = some c) : (S t).cps.getD i 0 = c := by
  have : (S t).cps = t.toArray := rfl
  rw [this]; simp [h]
theorem find_list {s : T} {i : Nat} (hi : i ≤ s.length) :
    (Txt.find3 (S s) (S [34]) (i : Int) = -1 ∧ (spn (fun c => decide (c ≠ 34)) (s.drop i)).2 = []) ∨ ∃ k : Nat, Txt.find3 (S s) (S [34]) (i : Int) = (k : Int) ∧ i ≤ k ∧ k < s.length ∧ spn (fun c => decide (c ≠ 34)) (s.drop i) = ((s.drop i).take (k - i), s.drop k) ∧ s[k]? = some 34 := by
  have e0 : (max (0 : Int) (if (i : Int) < 0 then (i : Int) + (S s).length else i)).toNat = i := by rw [if_neg (by omega)]; omega
  rcases StrLaws.find3_spec (S s) 34 (i : Int) with ⟨h1, h2⟩ | ⟨k, h1, h2, h3, h4, h5⟩
  · left
    refine ⟨h1, ?_⟩
    have hs : spn (fun c => decide (c ≠ 34)) (s.drop i) = ((s.drop i).take (s.drop i).length, (s.drop i).drop (s.drop i).length) := spn_first (Nat.le_refl _) (fun j c hj hc => by
      rw [List.getElem?_drop] at hc
      have hl := (List.getElem?_eq_some_iff.mp hc).1
      have := h2 (i + j) (by show (max (0 : Int) _).toNat ≤ _; rw [e0]; omega) hl
      rw [getD_S hc] at this
      simpa using this) (fun c hc => by rw [List.getElem?_eq_none (Nat.le_refl _)] at hc; cases hc)
    rw [hs]; simp; omega
  · right
    have h2' : i ≤ k := by
      have : (max (0 : Int) (if (i : Int) < 0 then (i : Int) + (S s).length else i)).toNat ≤ k := h2
      rwa [e0] at this
    have h3' : k < s.length := h3
    have hk : s[k]? = some 34 := by
      rw [List.getElem?_eq_getElem h3']
      rw [getD_S (List.getElem?_eq_getElem h3')] at h4
      rw [h4]
    refine ⟨k, h1, h2', h3', ?_, hk⟩
    have hs := spn_first (p := fun c => decide (c ≠ 34)) (l := s.drop i) (k := k - i) (by rw [List.length_drop]; omega) (fun j c hj hc => by
      rw [List.getElem?_drop] at hc
      have := h5 (i + j) (by show (max (0 : Int) _).toNat ≤ _; rw [e0]; omega) (by omega)
      rw [getD_S hc] at this
      simpa using this) (fun c hc => by
      rw [List.getElem?_drop, show i + (k - i) = k by omega, hk] at hc
      cases hc; simp)
    rw [hs, List.drop_drop, show i + (k - i) = k by omega]
theorem repl_list {c : Nat} {z : T} : ∀ t : T, replL [c] z t = t.flatMap fun d => if d = c then z else [d]
  | [] => by rw [replL_nil]; rfl
  | d :: t => by
    rw [List.flatMap_cons]
    by_cases h : d = c
    · subst h
      rw [replL_hit (by simp) (by simp), if_pos rfl]
      show z ++ replL [d] z t = _
      rw [repl_list t]
    · rw [replL_miss (by simpa using h), if_neg h, repl_list t]; rfl
theorem replace_S {c : Nat} {x y : Str} {t : T} (hx : x.cps.toList = [c]) : (Txt.replace (S t) x y).cps.toList = t.flatMap fun d => if d = c then y.cps.toList else [d] := by
  have h1 : 1 ≤ x.length := by
    have : x.cps.toList.length = 1 := by rw [hx]; rfl
    have e : x.length = x.cps.toList.length := by simp [Str.length]
    omega
  rw [replace_list h1, hx]
  exact repl_list t
theorem flatMap2 {t : T} {f g h : Nat → T} (e : ∀ c, (f c).flatMap g = h c) : (t.flatMap f).flatMap g = t.flatMap h := by
  rw [List.flatMap_assoc]
  congr 1; funext c; exact e c
theorem flat2_len {t : T} {f : Nat → T} (h : ∀ c, (f c).length ≤ 2) : (t.flatMap f).length ≤ 2 * t.length := by
  induction t with
  | nil => simp
  | cons a t ih =>
    rw [List.flatMap_cons, List.length_append, List.length_cons]
    have := h a; omega
theorem stretch_num {s st r : T} (h : stretch .number s = some (st, r)) : (∀ c ∈ lstripM st, 48 ≤ c ∧ c ≤ 57) ∧ (st = lstripM st ∨ st = 45 :: lstripM st) := by
  have hd : ∀ u : T, (∀ c ∈ u, decide (c ∈ FIG) = true) → lstripM u = u ∧ ∀ c ∈ u, 48 ≤ c ∧ c ≤ 57 := fun u hu => by
    have h2 : ∀ c ∈ u, 48 ≤ c ∧ c ≤ 57 := fun c hc => mem_FIG.mp (by simpa using hu c hc)
    refine ⟨?_, h2⟩
    cases u with
    | nil => rfl
    | cons c u =>
      have := h2 c (List.mem_cons_self ..)
      unfold lstripM
      split
      · rename_i e
        have := (List.cons.inj e).1; omega
      · rfl
  unfold stretch at h
  split at h
  · injection h with h; injection h with h1 h2
    subst h1
    rename_i r' _
    obtain ⟨e1, e2⟩ := hd _ (spn_all (fun c => decide (c ∈ FIG)) r')
    have e3 : lstripM (45 :: (spn (fun c => decide (c ∈ FIG)) r').1) = (spn (fun c => decide (c ∈ FIG)) r').1 := e1
    rw [e3]; exact ⟨e2, .inr rfl⟩
  · injection h with h
    rename_i s' _ _ _ _
    have := hd _ (spn_all (fun c => decide (c ∈ FIG)) s')
    rw [h] at this
    exact ⟨by rw [this.1]; exact this.2, .inl this.1.symm⟩
  · rename_i e; cases e
  · rename_i e _; cases e
  · rename_i h0 _ _ _; exact absurd rfl (by first | exact h0 | (intro _; simp_all))
theorem intText_st {st : T} (h1 : ∀ c ∈ lstripM st, 48 ≤ c ∧ c ≤ 57) (h2 : st = lstripM st ∨ st = 45 :: lstripM st) (h3 : lstripM st ≠ []) (h4 : (lstripM st).length ≤ 30) : intText? (S st) = some (intOf st) ∧ st.length ≤ 640 := by
  have : ∃ n, intText? (S st) = some n := by
    rcases h2 with e | e
    · exact ⟨_, intText_digits (x := S st) (by show AllDigits st; rw [e]; exact h1) (by show st ≠ []; rw [e]; exact h3) (by rw [S_len, e]; omega)⟩
    · exact ⟨_, intText_neg (x := S st) (cs := lstripM st) e h1 h3 (by rw [S_len, e, List.length_cons]; omega)⟩
  obtain ⟨n, hn⟩ := this
  refine ⟨by unfold intOf; rw [hn]; rfl, ?_⟩
  rcases h2 with e | e <;> rw [e]
  · omega
  · rw [List.length_cons]; omega
end K16
end

section
set_option maxHeartbeats 4000000
set_option autoImplicit false
/-! DL1: data trees, how the heap stands for them; states of data; weakest preconditions over data. -/
namespace K16
open PySem PySem.Spec PyProof.Rows L2 SX
abbrev cs (s : String) : T := (Str.ofString s).cps.toList
/-- a datum -/
inductive D where
  | non | bl (b : Bool) | int (i : Int) | str (t : T) | ty (n : String) | adr (a : Addr)
  | tup (l : List D) | lst (l : List D) | way (w : Way) | dic (kvs : List (T × T))
mutual
/-- the value stands for the datum; P: where its lists may lie -/
def Rep (K : PySem.W.Frag) (wc : Way → Addr) : D → (Addr → Prop) → Hp → V → Prop
  | .non, _, _, v => v = .non
  | .bl b, _, _, v => v = .bl b
  | .int i, _, _, v => v = .int i
  | .str t, _, _, v => v = .str (S t)
  | .ty n, _, _, v => v = .ty n
  | .adr a, _, _, v => v = .ref a
  | .tup l, P, H, v => ∃ a vs, v = .ref a ∧ SqT K H a vs ∧ RepL K wc l P H vs
  | .lst l, P, H, v => ∃ a vs, v = .ref a ∧ P a ∧ H a = some (.lst vs) ∧ RepL K wc l (fun c => P c ∧ c ≠ a) H vs
  | .way w, _, H, v => ∃ a dx, v = .ref a ∧ H a = some (.ins (wc w) dx [])
  | .dic kvs, _, H, v => ∃ a, v = .ref a ∧ H a = some (.dK (kvs.map fun p => (Sum.inr (S p.1), V.str (S p.2))))
def RepL (K : PySem.W.Frag) (wc : Way → Addr) : List D → (Addr → Prop) → Hp → List V → Prop
  | [], _, _, vs => vs = []
  | d :: l, P, H, vs => ∃ v r, vs = v :: r ∧ Rep K wc d P H v ∧ RepL K wc l P H r
end
section
variable {K : PySem.W.Frag} {wc : Way → Addr}
theorem sqT_keep {H H' : Hp} {a : Addr} {vs : List V} (h : SqT K H a vs) (hk : ∀ o, (∀ xs, o ≠ .lst xs) → H a = some o → H' a = some o) : SqT K H' a vs := by
  rcases h with (h | ⟨o, h⟩) | h
  · exact .inl (.inl (hk _ (fun xs e => by cases e) h))
  · exact .inl (.inr ⟨o, hk _ (fun xs e => by cases e) h⟩)
  · exact .inr h
mutual
/-- another heap, another place for lists -/
theorem Rep.to {P P' : Addr → Prop} {H H' : Hp} (hk : ∀ a o, (∀ xs, o ≠ .lst xs) → H a = some o → H' a = some o) (hl : ∀ a xs, P a → H a = some (.lst xs) → P' a ∧ H' a = some (.lst xs)) :
    ∀ (d : D) (v : V), Rep K wc d P H v → Rep K wc d P' H' v
  | .non, v, h => h
  | .bl b, v, h => h
  | .int i, v, h => h
  | .str t, v, h => h
  | .ty n, v, h => h
  | .adr a, v, h => h
  | .tup l, v, h => by
    have ih := RepL.to (P := P) (P' := P') hk hl l
    rw [Rep] at h ⊢
    obtain ⟨a, vs, e, s, r⟩ := h
    exact ⟨a, vs, e, sqT_keep s fun o n q => hk a o n q, ih vs r⟩
  | .lst l, v, h => by
    rw [Rep] at h ⊢
    obtain ⟨a, vs, e, p, s, r⟩ := h
    obtain ⟨p', s'⟩ := hl a vs p s
    have ih := RepL.to (P := fun c => P c ∧ c ≠ a) (P' := fun c => P' c ∧ c ≠ a) hk (fun c xs q z => by
      obtain ⟨p', s'⟩ := hl c xs q.1 z
      exact ⟨⟨p', q.2⟩, s'⟩) l
    exact ⟨a, vs, e, p', s', ih vs r⟩
  | .way w, v, h => by
    rw [Rep] at h ⊢
    obtain ⟨a, dx, e, s⟩ := h
    exact ⟨a, dx, e, hk a _ (fun xs e => by cases e) s⟩
  | .dic kvs, v, h => by
    rw [Rep] at h ⊢
    obtain ⟨a, e, s⟩ := h
    exact ⟨a, e, hk a _ (fun xs e => by cases e) s⟩
theorem RepL.to {P P' : Addr → Prop} {H H' : Hp} (hk : ∀ a o, (∀ xs, o ≠ .lst xs) → H a = some o → H' a = some o) (hl : ∀ a xs, P a → H a = some (.lst xs) → P' a ∧ H' a = some (.lst xs)) :
    ∀ (l : List D) (vs : List V), RepL K wc l P H vs → RepL K wc l P' H' vs
  | [], vs, h => h
  | d :: l, vs, h => by
    have ih := Rep.to (P := P) (P' := P') hk hl d
    have ihl := RepL.to (P := P) (P' := P') hk hl l
    rw [RepL] at h ⊢
    obtain ⟨v, r, e, h1, h2⟩ := h
    exact ⟨v, r, e, ih v h1, ihl r h2⟩
end
theorem Rep.mono {P P' : Addr → Prop} {H : Hp} {d : D} {v : V} (h : Rep K wc d P H v) (hp : ∀ a, P a → P' a) : Rep K wc d P' H v := Rep.to (fun _ _ _ e => e) (fun a _ p e => ⟨hp a p, e⟩) d v h
theorem RepL.mono {P P' : Addr → Prop} {H : Hp} {l : List D} {vs : List V} (h : RepL K wc l P H vs) (hp : ∀ a, P a → P' a) : RepL K wc l P' H vs := RepL.to (fun _ _ _ e => e) (fun a _ p e => ⟨hp a p, e⟩) l vs h
theorem Rep.same {P : Addr → Prop} {H H' : Hp} {d : D} {v : V} (h : Rep K wc d P H v) (s : Same H H') : Rep K wc d P H' v := Rep.to (fun a o _ e => s a o e) (fun a _ p e => ⟨p, s a _ e⟩) d v h
theorem RepL.same {P : Addr → Prop} {H H' : Hp} {l : List D} {vs : List V} (h : RepL K wc l P H vs) (s : Same H H') : RepL K wc l P H' vs := RepL.to (fun a o _ e => s a o e) (fun a _ p e => ⟨p, s a _ e⟩) l vs h
/-- its lists lie not where nothing stands -/
theorem Rep.fresh {P : Addr → Prop} {H : Hp} {d : D} {v : V} {p : Addr} (h : Rep K wc d P H v) (hp : H p = none) : Rep K wc d (fun c => P c ∧ c ≠ p) H v :=
  Rep.to (fun _ _ _ e => e) (fun a _ q e => ⟨⟨q, ne_of_none e hp⟩, e⟩) d v h
theorem RepL.fresh {P : Addr → Prop} {H : Hp} {l : List D} {vs : List V} {p : Addr} (h : RepL K wc l P H vs) (hp : H p = none) : RepL K wc l (fun c => P c ∧ c ≠ p) H vs :=
  RepL.to (fun _ _ _ e => e) (fun a _ q e => ⟨⟨q, ne_of_none e hp⟩, e⟩) l vs h
theorem RepL.len {P : Addr → Prop} {H : Hp} : ∀ {l : List D} {vs : List V}, RepL K wc l P H vs → vs.length = l.length
  | [], vs, h => by unfold RepL at h; rw [h]; rfl
  | d :: l, vs, h => by
    unfold RepL at h
    obtain ⟨v, r, e, _, h2⟩ := h
    rw [e, List.length_cons, List.length_cons, RepL.len h2]
theorem RepL.get {P : Addr → Prop} {H : Hp} : ∀ {l : List D} {vs : List V} {i : Nat} {d : D}, RepL K wc l P H vs → l[i]? = some d → ∃ v, vs[i]? = some v ∧ Rep K wc d P H v
  | [], _, _, _, _, e => by simp at e
  | d :: l, vs, 0, d', h, e => by
    unfold RepL at h
    obtain ⟨v, r, e1, h1, h2⟩ := h
    simp at e; subst e1; subst e
    exact ⟨v, rfl, h1⟩
  | d :: l, vs, i + 1, d', h, e => by
    unfold RepL at h
    obtain ⟨v, r, e1, h1, h2⟩ := h
    subst e1
    obtain ⟨u, h3, h4⟩ := RepL.get (i := i) (d := d') h2 (by simpa using e)
    exact ⟨u, by simpa using h3, h4⟩
theorem RepL.getV {P : Addr → Prop} {H : Hp} : ∀ {l : List D} {vs : List V} {i : Nat} {v : V}, RepL K wc l P H vs → vs[i]? = some v → ∃ d, l[i]? = some d ∧ Rep K wc d P H v
  | [], _, _, _, h, e => by unfold RepL at h; subst h; simp at e
  | d :: l, vs, 0, v', h, e => by
    unfold RepL at h
    obtain ⟨v, r, e1, h1, h2⟩ := h
    subst e1; simp at e; subst e
    exact ⟨d, rfl, h1⟩
  | d :: l, vs, i + 1, v', h, e => by
    unfold RepL at h
    obtain ⟨v, r, e1, h1, h2⟩ := h
    subst e1
    obtain ⟨u, h3, h4⟩ := RepL.getV (i := i) (v := v') h2 (by simpa using e)
    exact ⟨u, by simpa using h3, h4⟩
theorem RepL.nil {P : Addr → Prop} {H : Hp} : RepL K wc [] P H [] := by unfold RepL; rfl
theorem RepL.cons {P : Addr → Prop} {H : Hp} {d : D} {l : List D} {v : V} {vs : List V} (h : Rep K wc d P H v) (hl : RepL K wc l P H vs) : RepL K wc (d :: l) P H (v :: vs) := by
  rw [RepL]; exact ⟨v, vs, rfl, h, hl⟩
theorem RepL.uncons {P : Addr → Prop} {H : Hp} {d : D} {l : List D} {vs : List V} (h : RepL K wc (d :: l) P H vs) : ∃ v r, vs = v :: r ∧ Rep K wc d P H v ∧ RepL K wc l P H r := by
  rw [RepL] at h; exact h
theorem RepL.unnil {P : Addr → Prop} {H : Hp} {vs : List V} (h : RepL K wc [] P H vs) : vs = [] := by
  rw [RepL] at h; exact h
theorem RepL.append {P : Addr → Prop} {H : Hp} : ∀ {l m : List D} {vs us : List V}, RepL K wc l P H vs → RepL K wc m P H us → RepL K wc (l ++ m) P H (vs ++ us)
  | [], m, vs, us, h, h2 => by rw [h.unnil]; exact h2
  | d :: l, m, vs, us, h, h2 => by
    obtain ⟨v, r, e, h1, h3⟩ := h.uncons
    subst e
    exact .cons h1 (RepL.append h3 h2)
theorem RepL.take {P : Addr → Prop} {H : Hp} : ∀ (n : Nat) {l : List D} {vs : List V}, RepL K wc l P H vs → RepL K wc (l.take n) P H (vs.take n)
  | 0, _, _, _ => .nil
  | n + 1, [], vs, h => by rw [h.unnil]; exact .nil
  | n + 1, d :: l, vs, h => by
    obtain ⟨v, r, e, h1, h3⟩ := h.uncons
    subst e
    exact .cons h1 (RepL.take n h3)
theorem RepL.drop {P : Addr → Prop} {H : Hp} : ∀ (n : Nat) {l : List D} {vs : List V}, RepL K wc l P H vs → RepL K wc (l.drop n) P H (vs.drop n)
  | 0, _, _, h => h
  | n + 1, [], vs, h => by rw [h.unnil]; exact .nil
  | n + 1, d :: l, vs, h => by
    obtain ⟨v, r, e, h1, h3⟩ := h.uncons
    subst e
    exact RepL.drop n h3
theorem RepL.setAt {P : Addr → Prop} {H : Hp} {d : D} {v : V} (hd : Rep K wc d P H v) : ∀ (n : Nat) {l : List D} {vs : List V}, RepL K wc l P H vs → RepL K wc (l.set n d) P H (vs.set n v)
  | _, [], vs, h => by rw [h.unnil]; exact .nil
  | 0, e :: l, vs, h => by
    obtain ⟨u, r, e, h1, h3⟩ := h.uncons
    subst e
    exact .cons hd h3
  | n + 1, e :: l, vs, h => by
    obtain ⟨u, r, e, h1, h3⟩ := h.uncons
    subst e
    exact .cons h1 (RepL.setAt hd n h3)
end
/-! ### states of data -/
inductive Cell where
  | val (d : D)
  | own (l : List D)
abbrev Sl := List (Option Cell)
structure DSt where
  sl : Sl
  s : Option Addr
  k : Int
abbrev DSt.k' (δ : DSt) (k : Int) : DSt := { δ with k := k }
/-- the fixed things: the written part, the ways' classes, the class of what is raised, the wish about it, at which places it may be -/
structure Pr where
  K : PySem.W.Frag
  wc : Way → Addr
  nf : Addr
  E : XK
  B : Int → Prop
structure Gh where
  H0 : Hp
  P : Addr → Prop
  /-- a list that is being made by a comprehension: off limits -/
  X : Addr → Prop
  s : Option Addr
/-- where lists of data lie: not where the def's own ones do -/
def Pc (G : Gh) (O : Nat → Addr) (sl : Sl) (c : Addr) : Prop := G.P c ∧ ∀ (j : Nat) (l : List D), sl[j]? = some (some (.own l)) → c ≠ O j
structure At (p : Pr) (G : Gh) (O : Nat → Addr) (σ : L2.St) (H : Hp) (δ : DSt) : Prop where
  len : σ.length = δ.sl.length
  sp : δ.s = G.s
  base : ∀ a o, G.H0 a = some o → G.s ≠ some a → H a = some o
  fr : ∀ c, G.H0 c = none → G.s ≠ some c → ¬ G.X c → G.P c
  xl : ∀ c, G.X c → ∃ xs, H c = some (.lst xs)
  spot : ∀ s, G.s = some s → H s = some (.lst [.int δ.k, .int 24]) ∧ ¬ G.P s
  val : ∀ (i : Nat) (d : D), δ.sl[i]? = some (some (.val d)) → ∃ v, σ[i]? = some (some v) ∧ Rep p.K p.wc d (Pc G O δ.sl) H v
  own : ∀ (i : Nat) (l : List D), δ.sl[i]? = some (some (.own l)) → ∃ vs, σ[i]? = some (some (.ref (O i))) ∧ H (O i) = some (.lst vs) ∧ RepL p.K p.wc l (Pc G O δ.sl) H vs ∧ G.P (O i) ∧ G.H0 (O i) = none
  inj : ∀ (i j : Nat) (l l' : List D), δ.sl[i]? = some (some (.own l)) → δ.sl[j]? = some (some (.own l')) → O i = O j → i = j
  ex : ∀ n, p.B n → ∀ dd H', (∀ a o, G.H0 a = some o → G.s ≠ some a → H' a = some o) → H' dd = some (.xd [(("at" : Str), .int n)]) → p.E (.ref p.nf) (some dd) H'
/-- all stands but what stands at s -/
def Kp (s : Option Addr) (H H' : Hp) : Prop := ∀ a o, H a = some o → s ≠ some a → H' a = some o
theorem Kp.refl (s : Option Addr) (H : Hp) : Kp s H H := fun _ _ e _ => e
theorem Kp.trans {s : Option Addr} {H H1 H2 : Hp} (a : Kp s H H1) (b : Kp s H1 H2) : Kp s H H2 := fun c o e n => b c o (a c o e n) n
theorem Kp.same {s : Option Addr} {H H' : Hp} (a : Same H H') : Kp s H H' := fun c o e _ => a c o e
section
variable {p : Pr} {G : Gh} {O : Nat → Addr} {σ : L2.St} {H H' : Hp} {δ : DSt}
theorem At.nospot (A : At p G O σ H δ) {s : Addr} (h : G.s = some s) {c : Addr} (hp : Pc G O δ.sl c) : c ≠ s := fun e => (A.spot s h).2 (e ▸ hp.1)
/-- where nothing stands a list may be laid -/
theorem At.free (A : At p G O σ H δ) {c : Addr} (hc : H c = none) : Pc G O δ.sl c := by
  have ns : G.s ≠ some c := fun z => by
    have := (A.spot c z).1
    rw [hc] at this; cases this
  refine ⟨A.fr c ?_ ns fun x => ?_, fun j l hj e => ?_⟩
  · cases q : G.H0 c with
    | none => rfl
    | some o => rw [A.base c o q ns] at hc; cases hc
  · obtain ⟨xs, e⟩ := A.xl c x
    rw [hc] at e; cases e
  · obtain ⟨vs, _, h2, _⟩ := A.own j l hj
    rw [← e, hc] at h2; cases h2
theorem At.rep (A : At p G O σ H δ) (k : Kp G.s H H') {d : D} {v : V} (h : Rep p.K p.wc d (Pc G O δ.sl) H v) : Rep p.K p.wc d (Pc G O δ.sl) H' v :=
  Rep.to (fun a o n e => k a o e fun q => by
    have := (A.spot a q).1
    rw [this] at e
    exact n _ (Option.some.inj e).symm) (fun a xs q e => ⟨q, k a _ e fun z => A.nospot z q rfl⟩) d v h
theorem At.repL (A : At p G O σ H δ) (k : Kp G.s H H') {l : List D} {vs : List V} (h : RepL p.K p.wc l (Pc G O δ.sl) H vs) : RepL p.K p.wc l (Pc G O δ.sl) H' vs :=
  RepL.to (fun a o n e => k a o e fun q => by
    have := (A.spot a q).1
    rw [this] at e
    exact n _ (Option.some.inj e).symm) (fun a xs q e => ⟨q, k a _ e fun z => A.nospot z q rfl⟩) l vs h
/-- the heap grew, the spot may have turned -/
theorem At.next (A : At p G O σ H δ) (k : Kp G.s H H') {n : Int} (hs : ∀ s, G.s = some s → H' s = some (.lst [.int n, .int 24])) : At p G O σ H' (δ.k' n) where
  len := A.len
  sp := A.sp
  base := fun a o e m => k a o (A.base a o e m) m
  fr := A.fr
  xl := fun c m => by
    by_cases q : G.s = some c
    · exact ⟨_, hs c q⟩
    · obtain ⟨xs, e⟩ := A.xl c m
      exact ⟨xs, k c _ e q⟩
  spot := fun s q => ⟨hs s q, (A.spot s q).2⟩
  val := fun i d e => by
    obtain ⟨v, h1, h2⟩ := A.val i d e
    exact ⟨v, h1, A.rep k h2⟩
  own := fun i l e => by
    obtain ⟨vs, h1, h2, h3, h4⟩ := A.own i l e
    refine ⟨vs, h1, k _ _ h2 fun q => (A.spot _ q).2 h4.1, A.repL k h3, h4⟩
  inj := A.inj
  ex := A.ex
theorem At.same (A : At p G O σ H δ) (k : Same H H') : At p G O σ H' δ := A.next (n := δ.k) (.same k) fun s q => k _ _ (A.spot s q).1
end
theorem Kp.none {p : Pr} {G : Gh} {O : Nat → Addr} {σ : L2.St} {H H1 : Hp} {δ : DSt} {a : Addr} (A1 : At p G O σ H1 δ) (k : Kp G.s H H1) (ha : H1 a = none) : H a = none := by
  cases q : H a with
  | none => rfl
  | some o =>
    by_cases z : G.s = some a
    · have := (A1.spot a z).1; rw [ha] at this; cases this
    · rw [k a o q z] at ha; cases ha
/-! ### weakest preconditions over data -/
def wE (p : Pr) (te : TE) (δ : DSt) (Φ : D → DSt → Prop) : Prop := ∀ G O σ H, At p G O σ H δ → ∀ Q : VK,
  (∀ d k v H', Φ d (δ.k' k) → Kp G.s H H' → At p G O σ H' (δ.k' k) → Rep p.K p.wc d (Pc G O δ.sl) H' v → Q v H') → te σ H Q
def wT (p : Pr) (tt : TT) (δ : DSt) (Φ : Bool → DSt → Prop) : Prop := ∀ G O σ H, At p G O σ H δ → ∀ Q : Bool → Hp → Prop,
  (∀ b k H', Φ b (δ.k' k) → Kp G.s H H' → At p G O σ H' (δ.k' k) → Q b H') → tt σ H Q
def wA (p : Pr) (ta : TA) (δ : DSt) (Φ : List D → DSt → Prop) : Prop := ∀ G O σ H, At p G O σ H δ → ∀ Q : List V → Hp → Prop,
  (∀ ds k vs H', Φ ds (δ.k' k) → Kp G.s H H' → At p G O σ H' (δ.k' k) → RepL p.K p.wc ds (Pc G O δ.sl) H' vs → Q vs H') → ta σ H Q
/-- an operation by values -/
def wR (p : Pr) (r : R2) (a b : D) (Φ : D → Prop) : Prop := ∀ (P : Addr → Prop) H x y (Q : VK), (∀ c, H c = none → P c) → Rep p.K p.wc a P H x → Rep p.K p.wc b P H y →
  (∀ d v H', Φ d → Same H H' → Rep p.K p.wc d P H' v → Q v H') → r x y H Q
/-- a call by values -/
def wC (p : Pr) (r : List V → Hp → VK → Prop) (ds : List D) (Φ : D → Prop) : Prop := ∀ (P : Addr → Prop) H vs (Q : VK), (∀ c, H c = none → P c) → RepL p.K p.wc ds P H vs →
  (∀ d v H', Φ d → Same H H' → Rep p.K p.wc d P H' v → Q v H') → r vs H Q
structure DEn where
  nx : DSt → Prop
  rt : D → DSt → Prop
  bk : DSt → Prop := fun _ => False
  ct : DSt → Prop := fun _ => False
/-- the ends of a statement, by data -/
structure EndOk (p : Pr) (G : Gh) (Ψ : DEn) (F : Ends) : Prop where
  nx : ∀ δ O σ H, Ψ.nx δ → At p G O σ H δ → F.nx σ H
  rt : ∀ d δ O σ v H, Ψ.rt d δ → At p G O σ H δ → Rep p.K p.wc d G.P H v → F.rt v H
  bk : ∀ δ O σ H, Ψ.bk δ → At p G O σ H δ → F.bk σ H
  ct : ∀ δ O σ H, Ψ.ct δ → At p G O σ H δ → F.ct σ H
def wS (p : Pr) (ts : TS) (δ : DSt) (Ψ : DEn) : Prop := ∀ G O σ H, At p G O σ H δ → ∀ F : Ends, EndOk p G Ψ F → ts F σ H
section
variable {p : Pr} {δ : DSt} {te ta tb tc : TE} {tt tu : TT} {t u : TS} {Φ : D → DSt → Prop} {Ψ : DEn} {r r' : R2}
theorem kk {δ : DSt} : δ.k' δ.k = δ := rfl
theorem wE.mono {Φ' : D → DSt → Prop} (h : wE p te δ Φ) (hm : ∀ d δ', Φ d δ' → Φ' d δ') : wE p te δ Φ' := fun G O σ H A Q q => h G O σ H A Q fun d k v H' f => q d k v H' (hm d _ f)
theorem wT.mono {Φ Φ' : Bool → DSt → Prop} (h : wT p tt δ Φ) (hm : ∀ d δ', Φ d δ' → Φ' d δ') : wT p tt δ Φ' := fun G O σ H A Q q => h G O σ H A Q fun d k H' f => q d k H' (hm d _ f)
/-! ### constants, names -/
theorem wE_var {i : Nat} {d : D} (h : δ.sl[i]? = some (some (.val d))) (q : Φ d δ) : wE p (tVar i) δ Φ := fun G O σ H A Q f => by
  obtain ⟨v, h1, h2⟩ := A.val i d h
  exact ⟨v, h1, f d δ.k v H q (Kp.refl _ _) A h2⟩
theorem wE_c {v : V} {d : D} (h : ∀ P H, Rep p.K p.wc d P H v) (q : Φ d δ) : wE p (tC v) δ Φ := fun G O σ H A Q f => f d δ.k v H q (Kp.refl _ _) A (h _ _)
theorem wE_non (q : Φ .non δ) : wE p (tC .non) δ Φ := wE_c (fun _ _ => by unfold Rep; rfl) q
theorem wE_bl {b : Bool} (q : Φ (.bl b) δ) : wE p (tC (.bl b)) δ Φ := wE_c (fun _ _ => by unfold Rep; rfl) q
theorem wE_int {i : Int} (q : Φ (.int i) δ) : wE p (tC (.int i)) δ Φ := wE_c (fun _ _ => by unfold Rep; rfl) q
theorem wE_ty {n : String} (q : Φ (.ty n) δ) : wE p (tC (.ty n)) δ Φ := wE_c (fun _ _ => by unfold Rep; rfl) q
theorem wE_str {x : Str} (q : Φ (.str x.cps.toList) δ) : wE p (tC (.str x)) δ Φ := wE_c (fun _ _ => by unfold Rep; rw [S_tl]) q
theorem wE_strS {x : T} (q : Φ (.str x) δ) : wE p (tC (.str (S x))) δ Φ := wE_c (fun _ _ => by unfold Rep; rfl) q
/-! ### operations -/
theorem wE_op (h : wE p ta δ fun a δ1 => wE p tb δ1 fun b δ2 => wR p r a b fun d => Φ d δ2) : wE p (tOp r ta tb) δ Φ := fun G O σ H A Q f => by
  refine h G O σ H A _ fun a k1 x H1 h1 k A1 r1 => ?_
  refine h1 G O σ H1 A1 _ fun b k2 y H2 h2 k' A2 r2 => ?_
  refine h2 (Pc G O δ.sl) H2 x y Q (fun c hc => A2.free hc) (A1.rep k' r1) r2 fun d v H3 q s r3 => ?_
  exact f d k2 v H3 q ((k.trans k').trans (.same s)) (A2.same s) r3
theorem wE_un {ru : V → Hp → VK → Prop} (h : wE p ta δ fun a δ1 => ∀ (P : Addr → Prop) H x (Q : VK), (∀ c, H c = none → P c) → Rep p.K p.wc a P H x → (∀ d v H', Φ d δ1 → Same H H' → Rep p.K p.wc d P H' v → Q v H') → ru x H Q) : wE p (tUn ru ta) δ Φ := fun G O σ H A Q f => by
  refine h G O σ H A _ fun a k1 x H1 h1 k A1 r1 => ?_
  refine h1 (Pc G O δ.sl) H1 x Q (fun c hc => A1.free hc) r1 fun d v H3 q s r3 => ?_
  exact f d k1 v H3 q (k.trans (.same s)) (A1.same s) r3
theorem wE_neg (h : wE p ta δ fun a δ1 => ∃ i : Int, a = .int i ∧ Φ (.int (-i)) δ1) : wE p (tUn (rU fun i => .int (-i)) ta) δ Φ := wE_un (h.mono fun a δ1 ⟨i, e, q⟩ P H x Q _ r f => by
  subst e; unfold Rep at r
  exact ⟨i, r, f _ _ H q (Same.refl H) (by unfold Rep; rfl)⟩)
theorem wR_I {C : Int → Int → Prop} {g : Int → Int → Int} {i j : Int} {Φ : D → Prop} (hc : C i j) (q : Φ (.int (g i j))) : wR p (rI C fun i j => .int (g i j)) (.int i) (.int j) Φ := fun P H x y Q _ rx ry f => by
  unfold Rep at rx ry
  exact ⟨i, j, rx, ry, hc, f _ _ H q (Same.refl H) (by unfold Rep; rfl)⟩
theorem wR_I0 {g : Int → Int → Int} {i j : Int} {Φ : D → Prop} (q : Φ (.int (g i j))) : wR p (rI0 fun i j => .int (g i j)) (.int i) (.int j) Φ := fun P H x y Q _ rx ry f => by
  unfold Rep at rx ry
  exact ⟨i, j, rx, ry, f _ _ H q (Same.refl H) (by unfold Rep; rfl)⟩
theorem wR_B0 {g : Int → Int → Bool} {i j : Int} {Φ : D → Prop} (q : Φ (.bl (g i j))) : wR p (rI0 fun i j => .bl (g i j)) (.int i) (.int j) Φ := fun P H x y Q _ rx ry f => by
  unfold Rep at rx ry
  exact ⟨i, j, rx, ry, f _ _ H q (Same.refl H) (by unfold Rep; rfl)⟩
/-! ### equality of plain data -/
inductive Flat : D → V → Prop where
  | non : Flat .non .non
  | bl (b : Bool) : Flat (.bl b) (.bl b)
  | int (i : Int) : Flat (.int i) (.int i)
  | str (t : T) : Flat (.str t) (.str (S t))
theorem Flat.rep {d : D} {v u : V} {P : Addr → Prop} {H : Hp} (h : Flat d v) (r : Rep p.K p.wc d P H u) : u = v := by
  cases h <;> (unfold Rep at r; exact r)
theorem S_eq {a b : T} : decide (V.str (S a) = V.str (S b)) = decide (a = b) := by
  by_cases h : a = b
  · subst h; simp
  · rw [decide_eq_false h, decide_eq_false]
    intro e
    injection e with e
    exact h (S_inj e)
theorem wR_eqS {a b : T} {Φ : D → Prop} (q : Φ (.bl (decide (a = b)))) : wR p rEq (.str a) (.str b) Φ := fun P H x y Q _ rx ry f => by
  unfold Rep at rx ry; subst rx ry
  exact ⟨rfl, f _ _ H q (Same.refl H) (by unfold Rep; rw [S_eq])⟩
theorem wR_neS {a b : T} {Φ : D → Prop} (q : Φ (.bl (!decide (a = b)))) : wR p rNe (.str a) (.str b) Φ := fun P H x y Q _ rx ry f => by
  unfold Rep at rx ry; subst rx ry
  exact ⟨rfl, f _ _ H q (Same.refl H) (by unfold Rep; rw [S_eq])⟩
theorem wR_eqI {a b : Int} {Φ : D → Prop} (q : Φ (.bl (decide (a = b)))) : wR p rEq (.int a) (.int b) Φ := fun P H x y Q _ rx ry f => by
  unfold Rep at rx ry; subst rx ry
  refine ⟨rfl, f _ _ H q (Same.refl H) ?_⟩
  unfold Rep
  by_cases h : a = b
  · subst h; simp
  · rw [decide_eq_false h, decide_eq_false (fun e => h (V.int.inj e))]
theorem wR_neI {a b : Int} {Φ : D → Prop} (q : Φ (.bl (!decide (a = b)))) : wR p rNe (.int a) (.int b) Φ := fun P H x y Q _ rx ry f => by
  unfold Rep at rx ry; subst rx ry
  refine ⟨rfl, f _ _ H q (Same.refl H) ?_⟩
  unfold Rep
  by_cases h : a = b
  · subst h; simp
  · rw [decide_eq_false h, decide_eq_false (fun e => h (V.int.inj e))]
theorem wR_eqB {a b : Bool} {Φ : D → Prop} (q : Φ (.bl (decide (a = b)))) : wR p rEq (.bl a) (.bl b) Φ := fun P H x y Q _ rx ry f => by
  unfold Rep at rx ry; subst rx ry
  refine ⟨rfl, f _ _ H q (Same.refl H) ?_⟩
  unfold Rep
  cases a <;> cases b <;> rfl
theorem wR_neB {a b : Bool} {Φ : D → Prop} (q : Φ (.bl (!decide (a = b)))) : wR p rNe (.bl a) (.bl b) Φ := fun P H x y Q _ rx ry f => by
  unfold Rep at rx ry; subst rx ry
  refine ⟨rfl, f _ _ H q (Same.refl H) ?_⟩
  unfold Rep
  cases a <;> cases b <;> rfl
theorem wR_isN {a : D} {v : V} {Φ : D → Prop} (h : Flat a v) (q : Φ (.bl (decide (v = .non)))) : wR p (fun x y H Q => y = .non ∧ Q (.bl (decide (x = .non))) H) a .non Φ := fun P H x y Q _ rx ry f => by
  have ex := h.rep rx
  unfold Rep at ry; subst ex ry
  exact ⟨rfl, f _ _ H q (Same.refl H) (by unfold Rep; rfl)⟩
theorem wR_inS {c : Nat} {z : T} {Φ : D → Prop} (q : Φ (.bl (decide (c ∈ z)))) : wR p (fun x y H Q => ∃ (c : Nat) (z : Str), x = .str ⟨#[c]⟩ ∧ y = .str z ∧ Q (.bl (decide (c ∈ z.cps.toList))) H) (.str [c]) (.str z) Φ := fun P H x y Q _ rx ry f => by
  unfold Rep at rx ry; subst rx ry
  exact ⟨c, S z, rfl, rfl, f _ _ H q (Same.refl H) (by unfold Rep; rfl)⟩
theorem wR_notInS {c : Nat} {z : T} {Φ : D → Prop} (q : Φ (.bl (!decide (c ∈ z)))) : wR p (fun x y H Q => ∃ (c : Nat) (z : Str), x = .str ⟨#[c]⟩ ∧ y = .str z ∧ Q (.bl (!decide (c ∈ z.cps.toList))) H) (.str [c]) (.str z) Φ := fun P H x y Q _ rx ry f => by
  unfold Rep at rx ry; subst rx ry
  exact ⟨c, S z, rfl, rfl, f _ _ H q (Same.refl H) (by unfold Rep; rfl)⟩
theorem wR_addS {a b : T} {Φ : D → Prop} (hl : a.length + b.length ≤ 16777216) (q : Φ (.str (a ++ b))) : wR p (fun x y H Q => ∃ i j, x = .str i ∧ y = .str j ∧ i.length + j.length ≤ sizeLine ∧ Q (.str (i ++ j)) H) (.str a) (.str b) Φ := fun P H x y Q _ rx ry f => by
  unfold Rep at rx ry; subst rx ry
  exact ⟨S a, S b, rfl, rfl, by rw [S_len, S_len, sizeLine_eq]; exact hl, f _ _ H q (Same.refl H) (by unfold Rep; rw [S_cat])⟩
/-! ### items -/
theorem atI_at {α : Type} {l : List α} {i : Int} {n : Nat} {d : α} (e : i = (n : Int)) (h : l[n]? = some d) : atI l i = some d := by
  rw [e]; exact atI_nat h
theorem wR_ixT {l : List D} {i : Int} {n : Nat} {d : D} {Φ : D → Prop} (e : i = (n : Int)) (h : l[n]? = some d) (q : Φ d) : wR p (rIxT p.K) (.tup l) (.int i) Φ := fun P H x y Q _ rx ry f => by
  unfold Rep at rx ry
  obtain ⟨a, vs, rfl, s, r⟩ := rx
  obtain ⟨v, h1, h2⟩ := r.get h
  exact ⟨a, vs, i, v, rfl, ry, s, atI_at e h1, f d v H q (Same.refl H) h2⟩
theorem wR_ixL {l : List D} {i : Int} {n : Nat} {d : D} {Φ : D → Prop} (e : i = (n : Int)) (h : l[n]? = some d) (q : Φ d) : wR p (rIxL p.K) (.lst l) (.int i) Φ := fun P H x y Q _ rx ry f => by
  unfold Rep at rx ry
  obtain ⟨a, vs, rfl, hp, s, r⟩ := rx
  obtain ⟨v, h1, h2⟩ := r.get h
  exact ⟨a, vs, i, v, rfl, ry, SqL.of s, atI_at e h1, f d v H q (Same.refl H) (h2.mono fun _ z => z.1)⟩
theorem wR_ixS {t : T} {i : Int} {n : Nat} {c : Nat} {Φ : D → Prop} (hl : t.length ≤ 16777216) (e : i = (n : Int)) (h : t[n]? = some c) (q : Φ (.str [c])) : wR p rIxS (.str t) (.int i) Φ := fun P H x y Q _ rx ry f => by
  unfold Rep at rx ry; subst rx ry
  exact ⟨S t, i, c, rfl, rfl, by rw [S_len, sizeLine_eq]; exact hl, atI_at e h, f _ _ H q (Same.refl H) (by unfold Rep; rfl)⟩
/-! ### conditionals -/
theorem wT_test {Φ' : Bool → DSt → Prop} (h : wE p te δ fun d δ1 => ∃ b, d = .bl b ∧ Φ' b δ1) : wT p (tTest te) δ Φ' := fun G O σ H A Q f => by
  refine h G O σ H A _ fun a k1 x H1 h1 k A1 r1 => ?_
  obtain ⟨b, e, h1⟩ := h1
  subst e; unfold Rep at r1
  exact ⟨b, r1, f b k1 H1 h1 k A1⟩
theorem wT_B {Φ' : Bool → DSt → Prop} (h : wE p te δ fun d δ1 => ∃ b, d = .bl b ∧ Φ' b δ1) : wT p (tB te) δ Φ' := fun G O σ H A Q f => by
  refine h G O σ H A _ fun a k1 x H1 h1 k A1 r1 => ?_
  obtain ⟨b, e, h1⟩ := h1
  subst e; unfold Rep at r1
  exact ⟨b, r1, f b k1 H1 h1 k A1⟩
theorem wT_and {Φ' : Bool → DSt → Prop} (h : wT p tt δ fun b δ1 => if b = true then wT p tu δ1 Φ' else Φ' false δ1) : wT p (tAnd tt tu) δ Φ' := fun G O σ H A Q f => by
  refine h G O σ H A _ fun b k1 H1 h1 k A1 => ?_
  cases b with
  | true =>
    show (if true = true then _ else _)
    rw [if_pos rfl]
    exact h1 G O σ H1 A1 Q fun b' k2 H2 h2 k' A2 => f b' k2 H2 h2 (k.trans k') A2
  | false =>
    show (if false = true then _ else _)
    rw [if_neg (by simp)]
    exact f false k1 H1 h1 k A1
theorem wT_or {Φ' : Bool → DSt → Prop} (h : wT p tt δ fun b δ1 => if b = true then Φ' true δ1 else wT p tu δ1 Φ') : wT p (tOr tt tu) δ Φ' := fun G O σ H A Q f => by
  refine h G O σ H A _ fun b k1 H1 h1 k A1 => ?_
  cases b with
  | true =>
    show (if true = true then _ else _)
    rw [if_pos rfl]
    exact f true k1 H1 h1 k A1
  | false =>
    show (if false = true then _ else _)
    rw [if_neg (by simp)]
    exact h1 G O σ H1 A1 Q fun b' k2 H2 h2 k' A2 => f b' k2 H2 h2 (k.trans k') A2
theorem wT_not {Φ' : Bool → DSt → Prop} (h : wT p tt δ fun b δ1 => Φ' (!b) δ1) : wT p (tNot tt) δ Φ' := fun G O σ H A Q f =>
  h G O σ H A _ fun b k1 H1 h1 k A1 => f (!b) k1 H1 h1 k A1
theorem wE_andV (h : wE p ta δ fun a δ1 => ∃ b, a = .bl b ∧ if b = true then wE p tb δ1 Φ else Φ (.bl false) δ1) : wE p (tAndV ta tb) δ Φ := fun G O σ H A Q f => by
  refine h G O σ H A _ fun a k1 x H1 h1 k A1 r1 => ?_
  obtain ⟨b, e, h1⟩ := h1
  subst e; unfold Rep at r1
  refine ⟨b, r1, ?_⟩
  cases b with
  | true =>
    rw [if_pos rfl] at h1 ⊢
    exact h1 G O σ H1 A1 Q fun d k2 v H2 h2 k' A2 => f d k2 v H2 h2 (k.trans k') A2
  | false =>
    rw [if_neg (by simp)] at h1 ⊢
    exact f _ k1 _ H1 h1 k A1 (by unfold Rep; rfl)
theorem wE_orV (h : wE p ta δ fun a δ1 => ∃ b, a = .bl b ∧ if b = true then Φ (.bl true) δ1 else wE p tb δ1 Φ) : wE p (tOrV ta tb) δ Φ := fun G O σ H A Q f => by
  refine h G O σ H A _ fun a k1 x H1 h1 k A1 r1 => ?_
  obtain ⟨b, e, h1⟩ := h1
  subst e; unfold Rep at r1
  refine ⟨b, r1, ?_⟩
  cases b with
  | true =>
    rw [if_pos rfl] at h1 ⊢
    exact f _ k1 _ H1 h1 k A1 (by unfold Rep; rfl)
  | false =>
    rw [if_neg (by simp)] at h1 ⊢
    exact h1 G O σ H1 A1 Q fun d k2 v H2 h2 k' A2 => f d k2 v H2 h2 (k.trans k') A2
theorem wE_notV (h : wE p ta δ fun a δ1 => ∃ b, a = .bl b ∧ Φ (.bl (!b)) δ1) : wE p (tNotV ta) δ Φ := fun G O σ H A Q f => by
  refine h G O σ H A _ fun a k1 x H1 h1 k A1 r1 => ?_
  obtain ⟨b, e, h1⟩ := h1
  subst e; unfold Rep at r1
  exact ⟨b, r1, f _ k1 _ H1 h1 k A1 (by unfold Rep; rfl)⟩
theorem wE_if (h : wT p tt δ fun b δ1 => if b = true then wE p ta δ1 Φ else wE p tb δ1 Φ) : wE p (tIf tt ta tb) δ Φ := fun G O σ H A Q f => by
  refine h G O σ H A _ fun b k1 H1 h1 k A1 => ?_
  cases b with
  | true =>
    show (if true = true then _ else _)
    rw [if_pos rfl] at h1 ⊢
    exact h1 G O σ H1 A1 Q fun d k2 v H2 h2 k' A2 => f d k2 v H2 h2 (k.trans k') A2
  | false =>
    show (if false = true then _ else _)
    rw [if_neg (by simp)] at h1 ⊢
    exact h1 G O σ H1 A1 Q fun d k2 v H2 h2 k' A2 => f d k2 v H2 h2 (k.trans k') A2
theorem wE_chain {ra rb : R2} (h : wE p ta δ fun a δ1 => wE p tb δ1 fun b δ2 => wR p ra a b fun d => ∃ q : Bool, d = .bl q ∧ if q = true then wE p tc δ2 fun c δ3 => wR p rb b c fun d => Φ d δ3 else Φ (.bl false) δ2) : wE p (tChain ra rb ta tb tc) δ Φ := fun G O σ H A Q f => by
  refine h G O σ H A _ fun a k1 x H1 h1 k A1 r1 => ?_
  refine h1 G O σ H1 A1 _ fun b k2 y H2 h2 k' A2 r2 => ?_
  refine h2 (Pc G O δ.sl) H2 x y _ (fun c hc => A2.free hc) (A1.rep k' r1) r2 fun d v H3 q s r3 => ?_
  obtain ⟨b', e, q⟩ := q
  subst e; unfold Rep at r3
  refine ⟨b', r3, ?_⟩
  cases b' with
  | true =>
    rw [if_pos rfl] at q ⊢
    have A3 := A2.same s
    refine q G O σ H3 A3 _ fun c k4 z H4 h4 k'' A4 r4 => ?_
    refine h4 (Pc G O δ.sl) H4 y z Q (fun c hc => A4.free hc) (A3.rep k'' (r2.same s)) r4 fun d v H5 q s5 r5 => ?_
    exact f d k4 v H5 q ((((k.trans k').trans (.same s)).trans k'').trans (.same s5)) (A4.same s5) r5
  | false =>
    rw [if_neg (by simp)] at q ⊢
    exact f _ k2 _ H3 q ((k.trans k').trans (.same s)) (A2.same s) (by unfold Rep; rfl)
/-! ### arguments, displays -/
theorem wA_nil {Φ : List D → DSt → Prop} (q : Φ [] δ) : wA p tNil δ Φ := fun G O σ H A Q f => f [] δ.k [] H q (Kp.refl _ _) A .nil
theorem wA_cons {tr : TA} {Φ : List D → DSt → Prop} (h : wE p ta δ fun a δ1 => wA p tr δ1 fun ds δ2 => Φ (a :: ds) δ2) : wA p (tCons ta tr) δ Φ := fun G O σ H A Q f => by
  refine h G O σ H A _ fun a k1 x H1 h1 k A1 r1 => ?_
  refine h1 G O σ H1 A1 _ fun ds k2 vs H2 h2 k' A2 r2 => ?_
  exact f (a :: ds) k2 (x :: vs) H2 h2 (k.trans k') A2 (.cons (A1.rep k' r1) r2)
theorem wE_tup {tl : TA} (h : wA p tl δ fun ds δ1 => ds.length ≤ 16777216 ∧ Φ (.tup ds) δ1) : wE p (tTup tl) δ Φ := fun G O σ H A Q f => by
  refine h G O σ H A _ fun ds k1 vs H1 h1 k A1 r1 => ?_
  refine ⟨by rw [r1.len, sizeLine_eq]; exact h1.1, fun a ha => ?_⟩
  have s : Same H1 (upd H1 a (.tup vs)) := fun b o q => by rw [upd_ne (ne_of_none q ha)]; exact q
  refine f _ k1 _ _ h1.2 (k.trans (.same s)) (A1.same s) ?_
  unfold Rep
  exact ⟨a, vs, rfl, SqT.of upd_same, r1.same s⟩
/-- a new list: what is in it, where it lies -/
def wN (p : Pr) (te : TE) (δ : DSt) (Φ : List D → DSt → Prop) : Prop := ∀ G O σ H, At p G O σ H δ → ∀ Q : VK,
  (∀ l k a vs H', Φ l (δ.k' k) → Kp G.s H H' → At p G O σ H' (δ.k' k) → H a = none → H' a = some (.lst vs) → RepL p.K p.wc l (fun c => Pc G O δ.sl c ∧ c ≠ a) H' vs → Q (.ref a) H') → te σ H Q
theorem wE_new (h : wN p te δ fun l δ1 => Φ (.lst l) δ1) : wE p te δ Φ := fun G O σ H A Q f => by
  refine h G O σ H A Q fun l k a vs H' q kp A1 n e r => f (.lst l) k _ H' q kp A1 ?_
  unfold Rep
  exact ⟨a, vs, rfl, A.free n, e, r⟩
theorem wN_lst {tl : TA} {Φ : List D → DSt → Prop} (h : wA p tl δ fun ds δ1 => ds.length ≤ 16777216 ∧ Φ ds δ1) : wN p (tLst tl) δ Φ := fun G O σ H A Q f => by
  refine h G O σ H A _ fun ds k1 vs H1 h1 k A1 r1 => ?_
  refine ⟨by rw [r1.len, sizeLine_eq]; exact h1.1, fun a ha => ?_⟩
  have s : Same H1 (upd H1 a (.lst vs)) := fun b o q => by rw [upd_ne (ne_of_none q ha)]; exact q
  exact f ds k1 a vs _ h1.2 (k.trans (.same s)) (A1.same s) (Kp.none A1 k ha) upd_same ((r1.fresh ha).same s)
theorem wE_lst {tl : TA} (h : wA p tl δ fun ds δ1 => ds.length ≤ 16777216 ∧ Φ (.lst ds) δ1) : wE p (tLst tl) δ Φ := wE_new (wN_lst h)
theorem wN_cat {Φ : List D → DSt → Prop} (h : wE p ta δ fun a δ1 => wE p tb δ1 fun b δ2 => ∃ l m, a = .lst l ∧ b = .lst m ∧ l.length + m.length ≤ 16777216 ∧ Φ (l ++ m) δ2) : wN p (tOp rCat ta tb) δ Φ := fun G O σ H A Q f => by
  refine h G O σ H A _ fun a k1 x H1 h1 k A1 r1 => ?_
  refine h1 G O σ H1 A1 _ fun b k2 y H2 h2 k' A2 r2 => ?_
  obtain ⟨l, m, rfl, rfl, hl, q⟩ := h2
  have r1' := A1.rep k' r1
  unfold Rep at r1' r2
  obtain ⟨a1, vs1, rfl, p1, e1, q1⟩ := r1'
  obtain ⟨a2, vs2, rfl, p2, e2, q2⟩ := r2
  refine ⟨a1, a2, vs1, vs2, rfl, rfl, e1, e2, by rw [q1.len, q2.len, sizeLine_eq]; exact hl, fun a ha => ?_⟩
  have s : Same H2 (upd H2 a (.lst (vs1 ++ vs2))) := fun b o q => by rw [upd_ne (ne_of_none q ha)]; exact q
  have hn : H a = none := Kp.none A2 (k.trans k') ha
  exact f (l ++ m) k2 a _ _ q ((k.trans k').trans (.same s)) (A2.same s) hn upd_same ((((q1.mono fun _ z => z.1).append (q2.mono fun _ z => z.1)).fresh ha).same s)
end
end K16
end

section
set_option maxHeartbeats 4000000
set_option autoImplicit false
/-! DL2: slices, calls, statements, loops, comprehensions, own lists, over data. -/
namespace K16
open PySem PySem.Spec PyProof.Rows L2 SX
/-! ### slices -/
def wO (p : Pr) (to : TO) (δ : DSt) (Φ : Option Int → DSt → Prop) : Prop := ∀ G O σ H, At p G O σ H δ → ∀ Q : Option Int → Hp → Prop,
  (∀ b k H', Φ b (δ.k' k) → Kp G.s H H' → At p G O σ H' (δ.k' k) → Q b H') → to σ H Q
/-- a slice by values -/
def wL (p : Pr) (r : V → Option Int → Option Int → Hp → VK → Prop) (a : D) (lo hi : Option Int) (Φ : D → Prop) : Prop := ∀ (P : Addr → Prop) H x (Q : VK), (∀ c, H c = none → P c) → Rep p.K p.wc a P H x →
  (∀ d v H', Φ d → Same H H' → Rep p.K p.wc d P H' v → Q v H') → r x lo hi H Q
section
variable {p : Pr} {δ : DSt} {te ta tb tc : TE} {tt tu : TT} {t u : TS} {Φ : D → DSt → Prop} {Ψ : DEn} {r r' : R2}
theorem wO_none {Φ : Option Int → DSt → Prop} (q : Φ none δ) : wO p tNoPart δ Φ := fun G O σ H A Q f => f none δ.k H q (Kp.refl _ _) A
theorem wO_some {Φ : Option Int → DSt → Prop} (h : wE p te δ fun d δ1 => ∃ i, d = .int i ∧ Φ (some i) δ1) : wO p (tPart te) δ Φ := fun G O σ H A Q f => by
  refine h G O σ H A _ fun a k1 x H1 h1 k A1 r1 => ?_
  obtain ⟨i, e, h1⟩ := h1
  subst e; unfold Rep at r1
  exact ⟨i, r1, f (some i) k1 H1 h1 k A1⟩
theorem wE_sl {rs : V → Option Int → Option Int → Hp → VK → Prop} {tl th : TO} (h : wE p te δ fun a δ1 => wO p tl δ1 fun lo δ2 => wO p th δ2 fun hi δ3 => wL p rs a lo hi fun d => Φ d δ3) : wE p (tSl rs te tl th) δ Φ := fun G O σ H A Q f => by
  refine h G O σ H A _ fun a k1 x H1 h1 k A1 r1 => ?_
  refine h1 G O σ H1 A1 _ fun lo k2 H2 h2 k' A2 => ?_
  refine h2 G O σ H2 A2 _ fun hi k3 H3 h3 k'' A3 => ?_
  refine h3 (Pc G O δ.sl) H3 x Q (fun c hc => A3.free hc) (A2.rep k'' (A1.rep k' r1)) fun d v H4 q s r4 => ?_
  exact f d k3 v H4 q (((k.trans k').trans k'').trans (.same s)) (A3.same s) r4
def cutT {α : Type} (l : List α) (lo hi : Option Int) : List α := (l.drop (HT.sIx l.length 0 lo)).take (HT.sIx l.length l.length hi - HT.sIx l.length 0 lo)
theorem sIx_pos {n d : Nat} {i : Int} (h : 0 ≤ i) : HT.sIx n d (some i) = min i.toNat n := by
  have : i = ((i.toNat : Nat) : Int) := by omega
  rw [this, HT.sIx_nat]; rfl
theorem drop_min {α : Type} (l : List α) (n : Nat) : l.drop (min n l.length) = l.drop n := by
  by_cases h : n ≤ l.length
  · rw [Nat.min_eq_left h]
  · rw [Nat.min_eq_right (by omega), List.drop_eq_nil_of_le (by omega), List.drop_eq_nil_of_le (by omega)]
theorem cut_from {α : Type} {l : List α} {i : Int} (h : 0 ≤ i) : cutT l (some i) none = l.drop i.toNat := by
  unfold cutT
  rw [sIx_pos h, HT.sIx_none, drop_min, List.take_of_length_le]
  rw [List.length_drop]; omega
theorem cut_to {α : Type} {l : List α} {i : Int} (h : 0 ≤ i) : cutT l none (some i) = l.take i.toNat := by
  unfold cutT
  rw [sIx_pos h, HT.sIx_none, List.drop_zero, Nat.sub_zero]
  by_cases hl : i.toNat ≤ l.length
  · rw [Nat.min_eq_left hl]
  · rw [Nat.min_eq_right (by omega), List.take_of_length_le (Nat.le_refl _), List.take_of_length_le (by omega)]
theorem cut_mid {α : Type} {l : List α} {i j : Int} (hi : 0 ≤ i) (hj : 0 ≤ j) : cutT l (some i) (some j) = (l.drop i.toNat).take (j.toNat - i.toNat) := by
  unfold cutT
  rw [sIx_pos hi, sIx_pos hj, drop_min]
  by_cases h1 : i.toNat ≤ l.length
  · rw [Nat.min_eq_left h1]
    by_cases h2 : j.toNat ≤ l.length
    · rw [Nat.min_eq_left h2]
    · rw [Nat.min_eq_right (by omega), List.take_of_length_le (by rw [List.length_drop]; omega), List.take_of_length_le (by rw [List.length_drop]; omega)]
  · rw [List.drop_eq_nil_of_le (by omega), List.take_nil, List.take_nil]
theorem cut_all {α : Type} {l : List α} : cutT l none none = l := by
  unfold cutT
  rw [HT.sIx_none, HT.sIx_none, List.drop_zero, Nat.sub_zero, List.take_of_length_le (Nat.le_refl _)]
/-- [1:-1] -/
theorem cut_inner {α : Type} {l : List α} : cutT l (some 1) (some (-1)) = (l.drop 1).dropLast := by
  unfold cutT
  have e : HT.sIx l.length l.length (some (-1)) = l.length - 1 := by
    show (if (-1 : Int) < 0 then ((-1 : Int) + (l.length : Int)).toNat else min (-1 : Int).toNat l.length) = l.length - 1
    rw [if_pos (by decide)]; omega
  have e1 : HT.sIx l.length 0 (some 1) = min 1 l.length := sIx_pos (i := 1) (by decide)
  rw [e, e1, drop_min, List.dropLast_eq_take, List.length_drop]
  by_cases h : 1 ≤ l.length
  · rw [Nat.min_eq_left h]
  · have : l = [] := List.eq_nil_of_length_eq_zero (by omega)
    subst this; rfl
theorem wL_str {t : T} {lo hi : Option Int} {Φ : D → Prop} (hl : t.length ≤ 16777216) (q : Φ (.str (cutT t lo hi))) : wL p rSlS (.str t) lo hi Φ := fun P H x Q _ rx f => by
  unfold Rep at rx; subst rx
  refine ⟨S t, rfl, by rw [S_len, sizeLine_eq]; exact hl, f _ _ H q (Same.refl H) ?_⟩
  unfold Rep
  have e : cutS (S t) lo hi = S (cutT t lo hi) := by
    unfold cutS cutT
    rw [S_len]
  rw [e]
theorem wL_tup {l : List D} {lo hi : Option Int} {Φ : D → Prop} (q : Φ (.tup (cutT l lo hi))) : wL p (rSlA p.K) (.tup l) lo hi Φ := fun P H x Q hP rx f => by
  unfold Rep at rx
  obtain ⟨a, vs, rfl, s, r⟩ := rx
  have hl := r.len
  refine ⟨a, vs, rfl, s, fun hw => ?_, fun hw b hb => ?_⟩
  · rw [hl] at hw
    refine f _ _ H q (Same.refl H) ?_
    have e : cutT l lo hi = l := by
      unfold cutT
      rw [hw.1, hw.2, List.drop_zero, Nat.sub_zero, List.take_of_length_le (Nat.le_refl _)]
    rw [e]; unfold Rep
    exact ⟨a, vs, rfl, s, r⟩
  · have sm : Same H (upd H b (.tup (cutV vs lo hi))) := fun c o z => by rw [upd_ne (ne_of_none z hb)]; exact z
    refine f _ _ _ q sm ?_
    unfold Rep
    refine ⟨b, cutV vs lo hi, rfl, SqT.of upd_same, ?_⟩
    have e : cutV vs lo hi = (vs.drop (HT.sIx l.length 0 lo)).take (HT.sIx l.length l.length hi - HT.sIx l.length 0 lo) := by
      unfold cutV; rw [hl]
    have r2 := ((r.drop (HT.sIx l.length 0 lo)).take (HT.sIx l.length l.length hi - HT.sIx l.length 0 lo)).same sm
    rw [← e] at r2
    exact r2
/-! ### calls of built-ins -/
theorem wE_cb {rc : List V → Hp → VK → Prop} {tl : TA} (h : wA p tl δ fun ds δ1 => wC p rc ds fun d => Φ d δ1) : wE p (tCB rc tl) δ Φ := fun G O σ H A Q f => by
  refine h G O σ H A _ fun ds k1 vs H1 h1 k A1 r1 => ?_
  refine h1 (Pc G O δ.sl) H1 vs Q (fun c hc => A1.free hc) r1 fun d v H2 q s r2 => ?_
  exact f d k1 v H2 q (k.trans (.same s)) (A1.same s) r2
theorem RepL.one {K : PySem.W.Frag} {wc : Way → Addr} {P : Addr → Prop} {H : Hp} {d : D} {vs : List V} (h : RepL K wc [d] P H vs) : ∃ v, vs = [v] ∧ Rep K wc d P H v := by
  obtain ⟨v, r, e, h1, h2⟩ := h.uncons
  rw [h2.unnil] at e
  exact ⟨v, e, h1⟩
theorem RepL.two {K : PySem.W.Frag} {wc : Way → Addr} {P : Addr → Prop} {H : Hp} {d e : D} {vs : List V} (h : RepL K wc [d, e] P H vs) : ∃ v u, vs = [v, u] ∧ Rep K wc d P H v ∧ Rep K wc e P H u := by
  obtain ⟨v, r, e1, h1, h2⟩ := h.uncons
  obtain ⟨u, e2, h3⟩ := h2.one
  rw [e2] at e1
  exact ⟨v, u, e1, h1, h3⟩
theorem wC_lenS {t : T} {Φ : D → Prop} (hl : t.length ≤ 16777216) (q : Φ (.int t.length)) : wC p (fun xs H Q => ∃ z, xs = [.str z] ∧ z.length ≤ sizeLine ∧ Q (.int z.length) H) [.str t] Φ := fun P H vs Q _ rx f => by
  obtain ⟨v, rfl, r⟩ := rx.one
  unfold Rep at r; subst r
  exact ⟨S t, rfl, by rw [S_len, sizeLine_eq]; exact hl, f _ _ H q (Same.refl H) (by unfold Rep; rw [S_len])⟩
theorem wC_lenL {l : List D} {Φ : D → Prop} (q : Φ (.int l.length)) : wC p (fun xs H Q => ∃ a ys, xs = [.ref a] ∧ (SqL p.K H a ys ∨ SqT p.K H a ys) ∧ Q (.int ys.length) H) [.lst l] Φ := fun P H vs Q _ rx f => by
  obtain ⟨v, rfl, r⟩ := rx.one
  unfold Rep at r
  obtain ⟨a, ys, rfl, hp, e, r⟩ := r
  exact ⟨a, ys, rfl, .inl (SqL.of e), f _ _ H q (Same.refl H) (by unfold Rep; rw [r.len])⟩
theorem wC_lenT {l : List D} {Φ : D → Prop} (q : Φ (.int l.length)) : wC p (fun xs H Q => ∃ a ys, xs = [.ref a] ∧ (SqL p.K H a ys ∨ SqT p.K H a ys) ∧ Q (.int ys.length) H) [.tup l] Φ := fun P H vs Q _ rx f => by
  obtain ⟨v, rfl, r⟩ := rx.one
  unfold Rep at r
  obtain ⟨a, ys, rfl, e, r⟩ := r
  exact ⟨a, ys, rfl, .inr e, f _ _ H q (Same.refl H) (by unfold Rep; rw [r.len])⟩
theorem bls_of {K : PySem.W.Frag} {wc : Way → Addr} {P : Addr → Prop} {H : Hp} : ∀ {bs : List Bool} {vs : List V}, RepL K wc (bs.map D.bl) P H vs → vs = bs.map V.bl
  | [], vs, h => h.unnil
  | b :: bs, vs, h => by
    obtain ⟨v, r, e, h1, h2⟩ := RepL.uncons (d := .bl b) (l := bs.map D.bl) h
    unfold Rep at h1
    rw [e, h1, bls_of h2]; rfl
theorem strs_of {K : PySem.W.Frag} {wc : Way → Addr} {P : Addr → Prop} {H : Hp} : ∀ {bs : List T} {vs : List V}, RepL K wc (bs.map D.str) P H vs → vs = (bs.map S).map V.str
  | [], vs, h => h.unnil
  | b :: bs, vs, h => by
    obtain ⟨v, r, e, h1, h2⟩ := RepL.uncons (d := .str b) (l := bs.map D.str) h
    unfold Rep at h1
    rw [e, h1, strs_of h2]; rfl
theorem wC_all {bs : List Bool} {Φ : D → Prop} (q : Φ (.bl (bs.all id))) : wC p (rAll p.K) [.lst (bs.map D.bl)] Φ := fun P H vs Q _ rx f => by
  obtain ⟨v, rfl, r⟩ := rx.one
  unfold Rep at r
  obtain ⟨a, ys, rfl, hp, e, r⟩ := r
  rw [bls_of r] at e
  exact ⟨a, bs, rfl, SqL.of e, f _ _ H q (Same.refl H) (by unfold Rep; rfl)⟩
theorem wC_any {bs : List Bool} {Φ : D → Prop} (q : Φ (.bl (bs.any id))) : wC p (rAny p.K) [.lst (bs.map D.bl)] Φ := fun P H vs Q _ rx f => by
  obtain ⟨v, rfl, r⟩ := rx.one
  unfold Rep at r
  obtain ⟨a, ys, rfl, hp, e, r⟩ := r
  rw [bls_of r] at e
  exact ⟨a, bs, rfl, SqL.of e, f _ _ H q (Same.refl H) (by unfold Rep; rfl)⟩
theorem wC_intI {i : Int} {Φ : D → Prop} (q : Φ (.int i)) : wC p (fun xs H Q => (∃ i, xs = [.int i] ∧ Q (.int i) H) ∨ ∃ k, xs = [.bl k] ∧ Q (.int (if k then 1 else 0)) H) [.int i] Φ := fun P H vs Q _ rx f => by
  obtain ⟨v, rfl, r⟩ := rx.one
  unfold Rep at r; subst r
  exact .inl ⟨i, rfl, f _ _ H q (Same.refl H) (by unfold Rep; rfl)⟩
theorem wC_intB {b : Bool} {Φ : D → Prop} (q : Φ (.int (if b then 1 else 0))) : wC p (fun xs H Q => (∃ i, xs = [.int i] ∧ Q (.int i) H) ∨ ∃ k, xs = [.bl k] ∧ Q (.int (if k then 1 else 0)) H) [.bl b] Φ := fun P H vs Q _ rx f => by
  obtain ⟨v, rfl, r⟩ := rx.one
  unfold Rep at r; subst r
  exact .inr ⟨b, rfl, f _ _ H q (Same.refl H) (by unfold Rep; rfl)⟩
theorem wC_abs {i : Int} {Φ : D → Prop} (q : Φ (.int (if i < 0 then -i else i))) : wC p (fun xs H Q => ∃ i, xs = [.int i] ∧ Q (.int (if i < 0 then -i else i)) H) [.int i] Φ := fun P H vs Q _ rx f => by
  obtain ⟨v, rfl, r⟩ := rx.one
  unfold Rep at r; subst r
  exact ⟨i, rfl, f _ _ H q (Same.refl H) (by unfold Rep; rfl)⟩
theorem wC_max2 {i j : Int} {Φ : D → Prop} (q : Φ (.int (if j > i then j else i))) : wC p (fun xs H Q => ∃ i j, xs = [.int i, .int j] ∧ Q (.int (if j > i then j else i)) H) [.int i, .int j] Φ := fun P H vs Q _ rx f => by
  obtain ⟨v, u, rfl, r, r2⟩ := rx.two
  unfold Rep at r r2; subst r r2
  exact ⟨i, j, rfl, f _ _ H q (Same.refl H) (by unfold Rep; rfl)⟩
theorem wC_str {i : Int} {Φ : D → Prop} (hb : i.natAbs.log2 < 1920) (q : Φ (.str (shI i))) : wC p (fun xs H Q => ∃ i, xs = [.int i] ∧ i.natAbs.log2 < 1920 ∧ Q (.str (toString i)) H) [.int i] Φ := fun P H vs Q _ rx f => by
  obtain ⟨v, rfl, r⟩ := rx.one
  unfold Rep at r; subst r
  refine ⟨i, rfl, hb, f _ _ H q (Same.refl H) ?_⟩
  unfold Rep
  exact congrArg V.str (str_shI i)
theorem wC_intS {t : T} {n : Int} {Φ : D → Prop} (hn : intText? (S t) = some n) (hl : t.length ≤ 640) (q : Φ (.int n)) : wC p (fun xs H Q => ∃ a n, xs = [.str a] ∧ PySem.intText? a = some n ∧ a.length ≤ 640 ∧ Q (.int n) H) [.str t] Φ := fun P H vs Q _ rx f => by
  obtain ⟨v, rfl, r⟩ := rx.one
  unfold Rep at r; subst r
  exact ⟨S t, n, rfl, hn, by rw [S_len]; exact hl, f _ _ H q (Same.refl H) (by unfold Rep; rfl)⟩
theorem wC_tuple {l : List D} {Φ : D → Prop} (q : Φ (.tup l)) : wC p (fun xs H Q => ∃ a ys, xs = [.ref a] ∧ ((SqL p.K H a ys ∧ ∀ l, H l = none → Q (.ref l) (upd H l (.tup ys))) ∨ (SqT p.K H a ys ∧ Q (.ref a) H))) [.lst l] Φ := fun P H vs Q _ rx f => by
  obtain ⟨v, rfl, r⟩ := rx.one
  unfold Rep at r
  obtain ⟨a, ys, rfl, hp, e, r⟩ := r
  refine ⟨a, ys, rfl, .inl ⟨SqL.of e, fun b hb => ?_⟩⟩
  have sm : Same H (upd H b (.tup ys)) := fun c o z => by rw [upd_ne (ne_of_none z hb)]; exact z
  refine f _ _ _ q sm ?_
  unfold Rep
  exact ⟨b, ys, rfl, SqT.of upd_same, (r.mono fun _ z => z.1).same sm⟩
/-! ### isinstance -/
def tyD : D → String
  | .non => "NoneType"
  | .bl _ => "bool"
  | .int _ => "int"
  | .str _ => "str"
  | .tup _ => "tuple"
  | .lst _ => "list"
  | .dic _ => "dict"
  | _ => "object"
def tyOk : D → Bool
  | .non => true | .bl _ => true | .int _ => true | .str _ => true | .tup _ => true | .lst _ => true
  | _ => false
theorem sqT_tyX {K : PySem.W.Frag} {H : Hp} {a : Addr} {vs : List V} (h : SqT K H a vs) : TyX K H (.ref a) (.type "tuple") := by
  rcases h with (h | ⟨o, h⟩) | ⟨o, its, n, h1, h2, _⟩
  · exact .base (.tup h)
  · exact .fTuple h
  · exact .kTuple h1 h2
theorem tyX_of {d : D} {P : Addr → Prop} {H : Hp} {v : V} (h : tyOk d = true) (r : Rep p.K p.wc d P H v) : TyX p.K H v (.type (tyD d)) := by
  cases d <;> first | (cases h; done) | (unfold Rep at r)
  · subst r; exact .base .non
  · subst r; exact .base (.bl _)
  · subst r; exact .base (.int _)
  · subst r; exact .base (.str _)
  · obtain ⟨a, vs, rfl, s, _⟩ := r; exact sqT_tyX s
  · obtain ⟨a, vs, rfl, _, s, _⟩ := r; exact .base (.lst s)
theorem wC_isi {d : D} {n : String} {b : Bool} {Φ : D → Prop} (h : tyOk d = true) (hb : kitB (tyD d) n = some b) (q : Φ (.bl b)) : wC p (rIsi p.K) [d, .ty n] Φ := fun P H vs Q _ rx f => by
  obtain ⟨v, u, rfl, r1, r2⟩ := rx.two
  have t := tyX_of h r1
  unfold Rep at r2; subst r2
  exact ⟨v, .ty n, _, _, b, rfl, .ty n, t, kit_ty hb, f _ _ H q (Same.refl H) (by unfold Rep; rfl)⟩
theorem wC_isiT {d : D} {n1 n2 : String} {b1 b2 : Bool} {Φ : D → Prop} (h : tyOk d = true) (hb1 : kitB (tyD d) n1 = some b1) (hb2 : kitB (tyD d) n2 = some b2) (q : Φ (.bl (b1 || b2))) (hK : ∀ (H : Hp) (a : Addr) vs, SqT p.K H a vs → H a = some (.tup vs) ∨ True) :
    ∀ (P : Addr → Prop) H v a (Q : VK), Rep p.K p.wc d P H v → H a = some (.tup [.ty n1, .ty n2]) → (∀ d v H', Φ d → Same H H' → Rep p.K p.wc d P H' v → Q v H') → rIsiT p.K [v, .ref a] H Q := fun P H v a Q r1 e f => by
  have t := tyX_of h r1
  refine ⟨v, a, [.ty n1, .ty n2], _, [.type n1, .type n2], b1 || b2, rfl, e, .cons (.ty n1) (.cons (.ty n2) .nil), t, ?_, f _ _ H q (Same.refl H) (by unfold Rep; rfl)⟩
  refine kitAny_cons (kit_ty hb1) (fun e1 => ?_) (fun e1 => by rw [e1]; rfl)
  refine kitAny_cons (kit_ty hb2) (fun e2 => ?_) (fun e2 => by rw [e2]; cases b1 <;> rfl)
  rw [e1, e2]; rfl
/-- isinstance(x, (T1, T2)), the pair written there -/
theorem wE_isiT {n1 n2 : String} (h : wE p te δ fun d δ1 => ∃ b1 b2, tyOk d = true ∧ kitB (tyD d) n1 = some b1 ∧ kitB (tyD d) n2 = some b2 ∧ Φ (.bl (b1 || b2)) δ1) :
    wE p (tCB (rIsiT p.K) (tCons te (tCons (tTup (tCons (tC (.ty n1)) (tCons (tC (.ty n2)) tNil))) tNil))) δ Φ := fun G O σ H A Q f => by
  refine h G O σ H A _ fun d k1 v H1 h1 k A1 r1 => ?_
  obtain ⟨b1, b2, hk, hb1, hb2, q⟩ := h1
  refine ⟨by show 2 ≤ sizeLine; decide, fun a ha => ?_⟩
  have sm : Same H1 (upd H1 a (.tup [.ty n1, .ty n2])) := fun c o z => by rw [upd_ne (ne_of_none z ha)]; exact z
  refine wC_isiT (Φ := fun d => Φ d (δ.k' k1)) hk hb1 hb2 q (fun _ _ _ _ => .inr trivial) (Pc G O δ.sl) _ v a Q (r1.same sm) upd_same fun d v H2 q s r2 => ?_
  exact f d k1 v H2 q ((k.trans (.same sm)).trans (.same s)) ((A1.same sm).same s) r2
/-! ### methods of texts -/
theorem wE_join (h : wE p ta δ fun a δ1 => ∃ s, a = .str s ∧ wE p tb δ1 fun b δ2 => ∃ ts : List T, b = .lst (ts.map D.str) ∧ (ts.map List.length).sum + ts.length * s.length ≤ 16777216 ∧ Φ (.str (join s ts)) δ2) :
    wE p (tM1 (fun x xs H Q => ∃ a b, ∃ ys : List Str, x = .str a ∧ xs = [.ref b] ∧ (SqL p.K H b (ys.map V.str) ∨ SqT p.K H b (ys.map V.str)) ∧ (ys.map (·.length)).sum + ys.length * a.length ≤ 16777216 ∧ Q (.str (Txt.join a ys)) H) ta tb) δ Φ := fun G O σ H A Q f => by
  refine h G O σ H A _ fun a k1 x H1 h1 k A1 r1 => ?_
  obtain ⟨s, e, h1⟩ := h1
  subst e; unfold Rep at r1; subst r1
  refine ⟨⟨S s, rfl⟩, ?_⟩
  refine h1 G O σ H1 A1 _ fun b k2 y H2 h2 k' A2 r2 => ?_
  obtain ⟨ts, e, hl, q⟩ := h2
  subst e; unfold Rep at r2
  obtain ⟨b, ys, rfl, hp, e, r⟩ := r2
  rw [strs_of r] at e
  refine ⟨S s, b, ts.map S, rfl, rfl, .inl (SqL.of e), ?_, f _ k2 _ H2 q (k.trans k') A2 ?_⟩
  · rw [lens, List.length_map, S_len]; exact hl
  · unfold Rep
    rw [join_S]
    have e : ∀ l : List T, TL.joinL s l = join s l := by
      intro l
      induction l with
      | nil => rfl
      | cons a l ih =>
        cases l with
        | nil => rfl
        | cons b r =>
          show a ++ (s ++ TL.joinL s (b :: r)) = a ++ (s ++ join s (b :: r))
          rw [ih]
    rw [e]
theorem wE_find (h : wE p ta δ fun a δ1 => ∃ s, a = .str s ∧ wE p tb δ1 fun b δ2 => ∃ c, b = .str c ∧ Φ (.int (Txt.find (S s) (S c))) δ2) :
    wE p (tM1 (fun x xs H Q => ∃ a b, x = .str a ∧ xs = [.str b] ∧ Q (.int (Txt.find a b)) H) ta tb) δ Φ := fun G O σ H A Q f => by
  refine h G O σ H A _ fun a k1 x H1 h1 k A1 r1 => ?_
  obtain ⟨s, e, h1⟩ := h1
  subst e; unfold Rep at r1; subst r1
  refine ⟨⟨S s, rfl⟩, ?_⟩
  refine h1 G O σ H1 A1 _ fun b k2 y H2 h2 k' A2 r2 => ?_
  obtain ⟨c, e, q⟩ := h2
  subst e; unfold Rep at r2; subst r2
  exact ⟨S s, S c, rfl, rfl, f _ k2 _ H2 q (k.trans k') A2 (by unfold Rep; rfl)⟩
theorem wE_find3 {tl : TA} (h : wE p ta δ fun a δ1 => ∃ s, a = .str s ∧ wA p tl δ1 fun ds δ2 => ∃ c i, ds = [.str c, .int i] ∧ Φ (.int (Txt.find3 (S s) (S c) i)) δ2) :
    wE p (tBM p.K "str" (fun x xs H Q => ∃ (a b : Str) (i : Int), x = .str a ∧ xs = [.str b, .int i] ∧ Q (.int (Txt.find3 a b i)) H) ta tl) δ Φ := fun G O σ H A Q f => by
  refine h G O σ H A _ fun a k1 x H1 h1 k A1 r1 => ?_
  obtain ⟨s, e, h1⟩ := h1
  subst e; unfold Rep at r1; subst r1
  refine ⟨rfl, ?_⟩
  refine h1 G O σ H1 A1 _ fun ds k2 vs H2 h2 k' A2 r2 => ?_
  obtain ⟨c, i, e, q⟩ := h2
  subst e
  obtain ⟨v, u, rfl, r3, r4⟩ := r2.two
  unfold Rep at r3 r4; subst r3 r4
  exact ⟨S s, S c, i, rfl, rfl, f _ k2 _ H2 q (k.trans k') A2 (by unfold Rep; rfl)⟩
theorem wE_lstrip {tl : TA} (h : wE p ta δ fun a δ1 => ∃ s, a = .str s ∧ s.length ≤ 16777216 ∧ wA p tl δ1 fun ds δ2 => ∃ c, ds = [.str c] ∧ Φ (.str (Txt.lstripChars (S s) (S c)).cps.toList) δ2) :
    wE p (tBM p.K "str" (fun x xs H Q => ∃ a b, x = .str a ∧ xs = [.str b] ∧ a.length ≤ sizeLine ∧ Q (.str (Txt.lstripChars a b)) H) ta tl) δ Φ := fun G O σ H A Q f => by
  refine h G O σ H A _ fun a k1 x H1 h1 k A1 r1 => ?_
  obtain ⟨s, e, hl, h1⟩ := h1
  subst e; unfold Rep at r1; subst r1
  refine ⟨rfl, ?_⟩
  refine h1 G O σ H1 A1 _ fun ds k2 vs H2 h2 k' A2 r2 => ?_
  obtain ⟨c, e, q⟩ := h2
  subst e
  obtain ⟨v, rfl, r3⟩ := r2.one
  unfold Rep at r3; subst r3
  exact ⟨S s, S c, rfl, rfl, by rw [S_len, sizeLine_eq]; exact hl, f _ k2 _ H2 q (k.trans k') A2 (by unfold Rep; rw [S_tl])⟩
theorem wE_repl {y z : Str} (h : wE p ta δ fun a δ1 => ∃ s, a = .str s ∧ s.length + (s.length + 1) * z.length ≤ 16777216 ∧ Φ (.str (Txt.replace (S s) y z).cps.toList) δ1) : wE p (CwR.tReplC ta y z) δ Φ := fun G O σ H A Q f => by
  refine h G O σ H A _ fun a k1 x H1 h1 k A1 r1 => ?_
  obtain ⟨s, e, hl, q⟩ := h1
  subst e; unfold Rep at r1; subst r1
  exact ⟨S s, rfl, by rw [S_len]; exact hl, f _ k1 _ H1 q k A1 (by unfold Rep; rw [S_tl])⟩
/-! ### dicts of texts -/
inductive StrPairs : List (TE × TE) → List (T × T) → Prop where
  | nil : StrPairs [] []
  | cons {x y : Str} {trs : List (TE × TE)} {l : List (T × T)} (h : StrPairs trs l) : StrPairs ((tC (.str x), tC (.str y)) :: trs) ((x.cps.toList, y.cps.toList) :: l)
abbrev encD (l : List (T × T)) : List (Key × V) := l.map fun q => (Sum.inr (S q.1), V.str (S q.2))
theorem StrPairs.run : ∀ {trs : List (TE × TE)} {l : List (T × T)}, StrPairs trs l → ∀ {σ : L2.St} {H : Hp} {Q : List (V × V) → Hp → Prop}, Q ((encD l).map fun kv => (kV kv.1, kv.2)) H → tPairs trs σ H Q
  | _, _, .nil, σ, H, Q, q => q
  | _, _, .cons h, σ, H, Q, q => by
    show tPairs _ σ H _
    refine h.run ?_
    rename_i x y trs l
    have e : (encD ((x.cps.toList, y.cps.toList) :: l)).map (fun kv => (kV kv.1, kv.2)) = (V.str x, V.str y) :: (encD l).map fun kv => (kV kv.1, kv.2) := by
      show (V.str (S x.cps.toList), V.str (S y.cps.toList)) :: _ = _
      rw [S_tl, S_tl]
    rw [e] at q
    exact q
theorem wE_disp {trs : List (TE × TE)} {l : List (T × T)} (h : StrPairs trs l) (hl : l.length ≤ 15) (hm : mergeK [] (encD l) = encD l) (q : Φ (.dic l) δ) : wE p (tDisp trs) δ Φ := fun G O σ H A Q f => by
  intro a ha
  refine h.run ?_
  refine ⟨upd_same, encD l, rfl, by rw [List.length_map]; exact hl, ?_⟩
  rw [hm, upd_upd]
  have sm : Same H (upd H a (.dK (encD l))) := fun c o z => by rw [upd_ne (ne_of_none z ha)]; exact z
  refine f _ δ.k _ _ q (.same sm) (A.same sm) ?_
  unfold Rep
  exact ⟨a, rfl, upd_same⟩
def lkD (l : List (T × T)) (t : T) : Option T := (l.find? fun q => decide (q.1 = t)).map (·.2)
theorem valV_enc (t : T) : ∀ l : List (T × T), valV (encD l) (Sum.inr (S t)) = (lkD l t).map fun u => V.str (S u)
  | [] => rfl
  | q :: l => by
    have ih := valV_enc t l
    unfold valV lkD at *
    simp only [List.map_cons, List.find?_cons]
    by_cases h : q.1 = t
    · rw [decide_eq_true h, decide_eq_true (show (Sum.inr (S q.1) : Key) = Sum.inr (S t) by rw [h])]
      rfl
    · rw [decide_eq_false h, decide_eq_false (show ¬ (Sum.inr (S q.1) : Key) = Sum.inr (S t) from fun e => h (S_inj (Sum.inr.inj e)))]
      exact ih
theorem wE_dget2 (h : wE p ta δ fun a δ1 => ∃ l, a = .dic l ∧ wE p tb δ1 fun b δ2 => ∃ t, b = .str t ∧ wE p tc δ2 fun c δ3 => ∃ u, c = .str u ∧ Φ (.str ((lkD l t).getD u)) δ3) : wE p (tDGet2 ta tb tc) δ Φ := fun G O σ H A Q f => by
  refine h G O σ H A _ fun a k1 x H1 h1 k A1 r1 => ?_
  obtain ⟨l, e, h1⟩ := h1
  subst e
  have r1' := r1
  unfold Rep at r1
  obtain ⟨a, rfl, e⟩ := r1
  refine ⟨a, rfl, .inl ⟨_, .inl e⟩, ?_⟩
  refine h1 G O σ H1 A1 _ fun b k2 y H2 h2 k' A2 r2 => ?_
  obtain ⟨t, e2, h2⟩ := h2
  subst e2; unfold Rep at r2; subst r2
  refine h2 G O σ H2 A2 _ fun c k3 z H3 h3 k'' A3 r3 => ?_
  obtain ⟨u, e3, q⟩ := h3
  subst e3; unfold Rep at r3; subst r3
  have e3 := A2.rep k'' (A1.rep k' r1')
  unfold Rep at e3
  obtain ⟨a', ea, e3⟩ := e3
  cases ea
  refine ⟨_, DGet.k (k := Sum.inr (S t)) e3, ?_⟩
  refine f _ k3 _ H3 q ((k.trans k').trans k'') A3 ?_
  unfold Rep
  show (valV (encD l) (Sum.inr (S t))).getD (V.str (S u)) = _
  rw [valV_enc]
  cases lkD l t <;> rfl
theorem wE_dget {t : T} (h : wE p ta δ fun a δ1 => ∃ l, a = .dic l ∧ wE p tb δ1 fun b δ2 => ∃ t u, b = .str t ∧ lkD l t = some u ∧ Φ (.str u) δ2) : wE p (tDGet ta tb) δ Φ := fun G O σ H A Q f => by
  refine h G O σ H A _ fun a k1 x H1 h1 k A1 r1 => ?_
  obtain ⟨l, e, h1⟩ := h1
  subst e
  refine h1 G O σ H1 A1 _ fun b k2 y H2 h2 k' A2 r2 => ?_
  obtain ⟨t, u, e2, hl, q⟩ := h2
  subst e2; unfold Rep at r2; subst r2
  have e3 := A1.rep k' r1
  unfold Rep at e3
  obtain ⟨a', rfl, e3⟩ := e3
  have g := DGet.k (k := Sum.inr (S t)) e3
  rw [show valV (l.map fun q => (Sum.inr (S q.1), V.str (S q.2))) (Sum.inr (S t)) = some (V.str (S u)) by rw [valV_enc, hl]; rfl] at g
  exact ⟨a', _, rfl, g, f _ k2 _ H2 q (k.trans k') A2 (by unfold Rep; rfl)⟩
end
end K16
end

section
set_option maxHeartbeats 4000000
set_option autoImplicit false
/-! DL3: promises, statements, own lists, the spot, over data. -/
namespace K16
open PySem PySem.Spec PyProof.Rows L2 SX
/-! ### promises -/
structure Ct where
  pre : List D → Prop
  post : List D → D → Prop
  bad : List D → Int → Prop := fun _ _ => False
def spP (K : PySem.W.Frag) (wc : Way → Addr) (nf : Addr) (c : Ct) : Sp := fun vs H Q E => ∃ (P : Addr → Prop) (ds : List D), (∀ a, H a = none → P a) ∧ RepL K wc ds P H vs ∧ c.pre ds ∧
  (∀ d v H', c.post ds d → Same H H' → Rep K wc d P H' v → Q v H') ∧ (∀ n dd H', c.bad ds n → Same H H' → H' dd = some (.xd [(("at" : Str), .int n)]) → E (.ref nf) (some dd) H')
/-- a def that turns the spot at s from k to k' -/
structure CtS where
  pre : Addr → List D → Int → Prop
  post : Addr → List D → Int → D → Int → Prop
def spS (K : PySem.W.Frag) (wc : Way → Addr) (c : CtS) : Sp := fun vs H Q _ => ∃ (P : Addr → Prop) (ds : List D) (s : Addr) (k : Int), (∀ a, H a = none → P a) ∧ ¬ P s ∧ H s = some (.lst [.int k, .int 24]) ∧ RepL K wc ds P H vs ∧ c.pre s ds k ∧
  (∀ d k' v H', c.post s ds k d k' → Kp (some s) H H' → H' s = some (.lst [.int k', .int 24]) → Rep K wc d P H' v → Q v H')
def DSt.put (δ : DSt) (i : Nat) (c : Option Cell) : DSt := { δ with sl := δ.sl.set i c }
/-- nothing in it is a list -/
def NoL (p : Pr) (d : D) : Prop := ∀ (P P' : Addr → Prop) H v, Rep p.K p.wc d P H v → Rep p.K p.wc d P' H v
section
variable {p : Pr} {δ : DSt} {te ta tb tc : TE} {tt tu : TT} {t u : TS} {Φ : D → DSt → Prop} {Ψ : DEn} {r r' : R2} {G : Gh} {O : Nat → Addr} {σ : L2.St} {H H' : Hp}
/-! ### calls -/
theorem wE_call {E : XK} {tl : TA} {c : Ct} (h : wA p tl δ fun ds δ1 => c.pre ds ∧ (∀ d, c.post ds d → Φ d δ1) ∧ ∀ n, ¬ c.bad ds n) : wE p (tCall (spP p.K p.wc p.nf c) [] E tl) δ Φ := fun G O σ H A Q f => by
  refine h G O σ H A _ fun ds k1 vs H1 h1 k A1 r1 => ?_
  rw [List.append_nil]
  exact ⟨Pc G O δ.sl, ds, fun a ha => A1.free ha, r1, h1.1, fun d v H' q s r2 => f d k1 v H' (h1.2.1 d q) (k.trans (.same s)) (A1.same s) r2, fun n dd H' q => absurd q (h1.2.2 n)⟩
theorem wE_callX {tl : TA} {c : Ct} (h : wA p tl δ fun ds δ1 => c.pre ds ∧ (∀ d, c.post ds d → Φ d δ1) ∧ ∀ n, c.bad ds n → p.B n) : wE p (tCall (spP p.K p.wc p.nf c) [] p.E tl) δ Φ := fun G O σ H A Q f => by
  refine h G O σ H A _ fun ds k1 vs H1 h1 k A1 r1 => ?_
  rw [List.append_nil]
  exact ⟨Pc G O δ.sl, ds, fun a ha => A1.free ha, r1, h1.1, fun d v H' q s r2 => f d k1 v H' (h1.2.1 d q) (k.trans (.same s)) (A1.same s) r2,
    fun n dd H' q s e => A1.ex n (h1.2.2 n q) dd H' (fun a o z w => s a o (A1.base a o z w)) e⟩
theorem wE_callS {E : XK} {tl : TA} {c : CtS} (h : wA p tl δ fun ds δ1 => ∃ s, δ1.s = some s ∧ c.pre s ds δ1.k ∧ ∀ d k', c.post s ds δ1.k d k' → Φ d (δ1.k' k')) : wE p (tCall (spS p.K p.wc c) [] E tl) δ Φ := fun G O σ H A Q f => by
  refine h G O σ H A _ fun ds k1 vs H1 h1 k A1 r1 => ?_
  rw [List.append_nil]
  obtain ⟨s, es, hp, hq⟩ := h1
  have gs : G.s = some s := A1.sp.symm.trans es
  refine ⟨Pc G O δ.sl, ds, s, k1, fun a ha => A1.free ha, fun q => (A1.spot s gs).2 q.1, (A1.spot s gs).1, r1, hp, fun d k' v H' q s2 e r2 => ?_⟩
  have s2' : Kp G.s H1 H' := by rw [gs]; exact s2
  refine f d k' v H' (hq d k' q) (k.trans s2') (A1.next s2' fun s' e' => ?_) r2
  rw [gs] at e'; cases e'; exact e
theorem wE_meth {E : XK} {w : Way} {m : Str} {tl : TA} {c : Ct} (h : wE p ta δ fun a δ1 => a = .way w ∧ wA p tl δ1 fun ds δ2 => c.pre (.way w :: ds) ∧ (∀ d, c.post (.way w :: ds) d → Φ d δ2) ∧ ∀ n, ¬ c.bad (.way w :: ds) n) :
    wE p (tMeth (p.wc w) m (spP p.K p.wc p.nf c) [] E ta tl) δ Φ := fun G O σ H A Q f => by
  refine h G O σ H A _ fun a k1 x H1 h1 k A1 r1 => ?_
  obtain ⟨e, h1⟩ := h1
  subst e
  have r1' := r1
  unfold Rep at r1
  obtain ⟨a, dx, rfl, e⟩ := r1
  refine ⟨a, dx, [], rfl, e, rfl, ?_⟩
  refine h1 G O σ H1 A1 _ fun ds k2 vs H2 h2 k' A2 r2 => ?_
  rw [List.append_nil]
  exact ⟨Pc G O δ.sl, .way w :: ds, fun a ha => A2.free ha, .cons (A1.rep k' r1') r2, h2.1, fun d v H' q s r3 => f d k2 v H' (h2.2.1 d q) ((k.trans k').trans (.same s)) (A2.same s) r3, fun n dd H' q => absurd q (h2.2.2 n)⟩
/-- C() of a class without __init__ -/
def tNewO (C : Addr) : TE := fun _ H Q => ∀ x dx, H x = none → H dx = none → dx ≠ x → Q (.ref x) (upd (upd H dx (.own x)) x (.ins C dx []))
theorem wE_newO {w : Way} (q : Φ (.way w) δ) : wE p (tNewO (p.wc w)) δ Φ := fun G O σ H A Q f => by
  intro x dx hx hdx ne
  have sm : Same H (upd (upd H dx (.own x)) x (.ins (p.wc w) dx [])) := fun c o z => by rw [upd_ne (ne_of_none z hx), upd_ne (ne_of_none z hdx)]; exact z
  refine f _ δ.k _ _ q (.same sm) (A.same sm) ?_
  unfold Rep
  exact ⟨x, dx, rfl, upd_same⟩
/-! ### states: a slot put -/
theorem Pc.put {sl : Sl} {i : Nat} {d : D} {c : Addr} (h : Pc G O sl c) : Pc G O (sl.set i (some (.val d))) c := ⟨h.1, fun j l e => by
  by_cases hj : j = i
  · subst hj
    rw [List.getElem?_set] at e
    split at e
    · split at e <;> simp at e
    · exact h.2 j l e
  · rw [List.getElem?_set_ne (Ne.symm hj)] at e; exact h.2 j l e⟩
theorem At.put (A : At p G O σ H δ) {i : Nat} {d : D} {v : V} (r : Rep p.K p.wc d (Pc G O δ.sl) H v) : At p G O (σ.set i (some v)) H (δ.put i (some (.val d))) where
  len := by show (σ.set i _).length = (δ.sl.set i _).length; rw [List.length_set, List.length_set]; exact A.len
  sp := A.sp
  base := A.base
  fr := A.fr
  xl := A.xl
  spot := A.spot
  val := fun j e h => by
    have h' : (δ.sl.set i (some (.val d)))[j]? = some (some (.val e)) := h
    by_cases hj : j = i
    · subst hj
      rw [List.getElem?_set] at h'
      rw [if_pos rfl] at h'
      split at h'
      · rename_i hl
        injection h' with h'; injection h' with h'; injection h' with h'
        subst h'
        exact ⟨v, by rw [List.getElem?_set, if_pos rfl, if_pos (by rw [A.len]; exact hl)], r.mono fun a q => q.put⟩
      · cases h'
    · rw [List.getElem?_set_ne (Ne.symm hj)] at h'
      obtain ⟨u, h1, h2⟩ := A.val j e h'
      exact ⟨u, by rw [List.getElem?_set_ne (Ne.symm hj)]; exact h1, h2.mono fun a q => q.put⟩
  own := fun j l h => by
    have h' : (δ.sl.set i (some (.val d)))[j]? = some (some (.own l)) := h
    by_cases hj : j = i
    · subst hj
      rw [List.getElem?_set, if_pos rfl] at h'
      split at h' <;> simp at h'
    · rw [List.getElem?_set_ne (Ne.symm hj)] at h'
      obtain ⟨us, h1, h2, h3, h4⟩ := A.own j l h'
      exact ⟨us, by rw [List.getElem?_set_ne (Ne.symm hj)]; exact h1, h2, h3.mono fun a q => q.put, h4⟩
  inj := fun j j' l l' h h' e => by
    have q : (δ.sl.set i (some (.val d)))[j]? = some (some (.own l)) := h
    have q' : (δ.sl.set i (some (.val d)))[j']? = some (some (.own l')) := h'
    have key : ∀ {j : Nat} {l : List D}, (δ.sl.set i (some (.val d)))[j]? = some (some (.own l)) → δ.sl[j]? = some (some (.own l)) := fun {j l} q => by
      by_cases hj : j = i
      · subst hj
        rw [List.getElem?_set, if_pos rfl] at q
        split at q <;> simp at q
      · rw [List.getElem?_set_ne (Ne.symm hj)] at q; exact q
    exact A.inj j j' l l' (key q) (key q') e
  ex := A.ex
/-- a new list put as an own one; what stood in the heap ahead of it -/
theorem At.putOwn (A : At p G O σ H δ) {n : Int} (A1 : At p G O σ H' (δ.k' n)) (k : Kp G.s H H') {i : Nat} {l : List D} {a : Addr} {vs : List V} (ha : H a = none) (ea : H' a = some (.lst vs)) (r : RepL p.K p.wc l (fun c => Pc G O δ.sl c ∧ c ≠ a) H' vs) :
    At p G (fun j => if j = i then a else O j) (σ.set i (some (.ref a))) H' ((δ.k' n).put i (some (.own l))) := by
  have hPc : ∀ c, (Pc G O δ.sl c ∧ c ≠ a) → Pc G (fun j => if j = i then a else O j) (δ.sl.set i (some (.own l))) c := fun c h => ⟨h.1.1, fun j m e => by
    show c ≠ if j = i then a else O j
    by_cases hj : j = i
    · rw [if_pos hj]; exact h.2
    · rw [if_neg hj]
      rw [List.getElem?_set_ne (Ne.symm hj)] at e
      exact h.1.2 j m e⟩
  have fa := A.free ha
  have h0 : G.H0 a = none := by
    have ns : G.s ≠ some a := fun z => by
      have := (A.spot a z).1
      rw [ha] at this; cases this
    cases q : G.H0 a with
    | none => rfl
    | some o => rw [A.base a o q ns] at ha; cases ha
  have keep : ∀ (d : D) (v : V), Rep p.K p.wc d (Pc G O δ.sl) H v → Rep p.K p.wc d (Pc G (fun j => if j = i then a else O j) (δ.sl.set i (some (.own l)))) H' v := fun d v h => by
    have h1 := h.fresh ha
    refine Rep.to (fun b o n e => k b o e fun q => ?_) (fun b xs q e => ⟨hPc b q, k b _ e fun z => A.nospot z q.1 rfl⟩) d v h1
    have := (A.spot b q).1
    rw [this] at e
    exact n _ (Option.some.inj e).symm
  have keepL : ∀ (d : List D) (v : List V), RepL p.K p.wc d (Pc G O δ.sl) H v → RepL p.K p.wc d (Pc G (fun j => if j = i then a else O j) (δ.sl.set i (some (.own l)))) H' v := fun d v h => by
    have h1 := h.fresh ha
    refine RepL.to (fun b o n e => k b o e fun q => ?_) (fun b xs q e => ⟨hPc b q, k b _ e fun z => A.nospot z q.1 rfl⟩) d v h1
    have := (A.spot b q).1
    rw [this] at e
    exact n _ (Option.some.inj e).symm
  exact {
    len := by show (σ.set i _).length = (δ.sl.set i _).length; rw [List.length_set, List.length_set]; exact A.len
    sp := A.sp
    base := A1.base
    fr := A.fr
    xl := A1.xl
    spot := A1.spot
    val := fun j e h => by
      have h' : (δ.sl.set i (some (.own l)))[j]? = some (some (.val e)) := h
      by_cases hj : j = i
      · subst hj
        rw [List.getElem?_set, if_pos rfl] at h'
        split at h' <;> simp at h'
      · rw [List.getElem?_set_ne (Ne.symm hj)] at h'
        obtain ⟨u, h1, h2⟩ := A.val j e h'
        exact ⟨u, by rw [List.getElem?_set_ne (Ne.symm hj)]; exact h1, keep _ _ h2⟩
    own := fun j m h => by
      have h' : (δ.sl.set i (some (.own l)))[j]? = some (some (.own m)) := h
      by_cases hj : j = i
      · subst hj
        rw [List.getElem?_set, if_pos rfl] at h'
        split at h'
        · rename_i hl
          injection h' with h'; injection h' with h'; injection h' with h'
          subst h'
          refine ⟨vs, ?_, ?_, r.mono hPc, ?_, ?_⟩
          · rw [List.getElem?_set, if_pos rfl, if_pos (by rw [A.len]; exact hl), if_pos rfl]
          · rw [if_pos rfl]; exact ea
          · rw [if_pos rfl]; exact fa.1
          · rw [if_pos rfl]; exact h0
        · cases h'
      · rw [List.getElem?_set_ne (Ne.symm hj)] at h'
        obtain ⟨us, h1, h2, h3, h4⟩ := A.own j m h'
        have hs : G.s ≠ some (O j) := fun q => (A.spot _ q).2 h4.1
        refine ⟨us, ?_, ?_, keepL _ _ h3, ?_⟩
        · rw [List.getElem?_set_ne (Ne.symm hj), if_neg hj]; exact h1
        · rw [if_neg hj]; exact k _ _ h2 hs
        · rw [if_neg hj]; exact h4
    inj := fun j j' m m' h h' e => by
      have q : (δ.sl.set i (some (.own l)))[j]? = some (some (.own m)) := h
      have q' : (δ.sl.set i (some (.own l)))[j']? = some (some (.own m')) := h'
      have e1 : (if j = i then a else O j) = (if j' = i then a else O j') := e
      have no : ∀ {j : Nat} {m : List D}, (δ.sl.set i (some (.own l)))[j]? = some (some (.own m)) → j ≠ i → O j ≠ a := fun {j m} q hj z => by
        rw [List.getElem?_set_ne (Ne.symm hj)] at q
        obtain ⟨us, h1, h2, _⟩ := A.own j m q
        rw [z, ha] at h2; cases h2
      by_cases hj : j = i
      · by_cases hj' : j' = i
        · rw [hj, hj']
        · rw [if_pos hj, if_neg hj'] at e1
          exact absurd e1.symm (no q' hj')
      · by_cases hj' : j' = i
        · rw [if_neg hj, if_pos hj'] at e1
          exact absurd e1 (no q hj)
        · rw [if_neg hj, if_neg hj'] at e1
          rw [List.getElem?_set_ne (Ne.symm hj)] at q
          rw [List.getElem?_set_ne (Ne.symm hj')] at q'
          exact A.inj j j' m m' q q' e1
    ex := A.ex }
/-- an own list changed -/
theorem At.turn (A : At p G O σ H δ) {i : Nat} {l l' : List D} {vs' : List V} (hi : δ.sl[i]? = some (some (.own l))) (r : RepL p.K p.wc l' (Pc G O δ.sl) H vs') : At p G O σ (upd H (O i) (.lst vs')) (δ.put i (some (.own l'))) := by
  obtain ⟨vs, g1, g2, g3, g4, g5⟩ := A.own i l hi
  have hil : i < δ.sl.length := (List.getElem?_eq_some_iff.mp hi).1
  have hPc : ∀ c, Pc G O δ.sl c → Pc G O (δ.sl.set i (some (.own l'))) c := fun c h => ⟨h.1, fun j m e => by
    by_cases hj : j = i
    · subst hj; exact h.2 j l hi
    · rw [List.getElem?_set_ne (Ne.symm hj)] at e; exact h.2 j m e⟩
  have ne : ∀ {c : Addr}, Pc G O δ.sl c → c ≠ O i := fun {c} h => h.2 i l hi
  have nt : ∀ (b : Addr) (o : HO), (∀ xs, o ≠ .lst xs) → H b = some o → (upd H (O i) (.lst vs')) b = some o := fun b o n e => by
    rw [upd_ne fun z => ?_]; exact e
    rw [z, g2] at e
    exact n _ (Option.some.inj e).symm
  have keep : ∀ (d : D) (v : V), Rep p.K p.wc d (Pc G O δ.sl) H v → Rep p.K p.wc d (Pc G O (δ.sl.set i (some (.own l')))) (upd H (O i) (.lst vs')) v := fun d v h =>
    Rep.to nt (fun b xs q e => ⟨hPc b q, by rw [upd_ne (ne q)]; exact e⟩) d v h
  have keepL : ∀ (d : List D) (v : List V), RepL p.K p.wc d (Pc G O δ.sl) H v → RepL p.K p.wc d (Pc G O (δ.sl.set i (some (.own l')))) (upd H (O i) (.lst vs')) v := fun d v h =>
    RepL.to nt (fun b xs q e => ⟨hPc b q, by rw [upd_ne (ne q)]; exact e⟩) d v h
  exact {
    len := by show σ.length = (δ.sl.set i _).length; rw [List.length_set]; exact A.len
    sp := A.sp
    base := fun a o e m => by
      rw [upd_ne fun z => ?_]; exact A.base a o e m
      rw [z, g5] at e; cases e
    fr := A.fr
    xl := fun c x => by
      by_cases z : c = O i
      · exact ⟨vs', by rw [z]; exact upd_same⟩
      · obtain ⟨xs, e⟩ := A.xl c x
        exact ⟨xs, by rw [upd_ne z]; exact e⟩
    spot := fun s e => by
      have ns : s ≠ O i := fun z => (A.spot s e).2 (by rw [z]; exact g4)
      exact ⟨by rw [upd_ne ns]; exact (A.spot s e).1, (A.spot s e).2⟩
    val := fun j e h => by
      have h' : (δ.sl.set i (some (.own l')))[j]? = some (some (.val e)) := h
      by_cases hj : j = i
      · subst hj
        rw [List.getElem?_set, if_pos rfl] at h'
        split at h' <;> simp at h'
      · rw [List.getElem?_set_ne (Ne.symm hj)] at h'
        obtain ⟨u, h1, h2⟩ := A.val j e h'
        exact ⟨u, h1, keep _ _ h2⟩
    own := fun j m h => by
      have h' : (δ.sl.set i (some (.own l')))[j]? = some (some (.own m)) := h
      by_cases hj : j = i
      · subst hj
        rw [List.getElem?_set, if_pos rfl, if_pos hil] at h'
        injection h' with h'; injection h' with h'; injection h' with h'
        subst h'
        exact ⟨vs', g1, upd_same, keepL _ _ r, g4, g5⟩
      · rw [List.getElem?_set_ne (Ne.symm hj)] at h'
        obtain ⟨us, h1, h2, h3, h4⟩ := A.own j m h'
        have nO : O j ≠ O i := fun z => hj (A.inj j i m l h' hi z)
        exact ⟨us, h1, by rw [upd_ne nO]; exact h2, keepL _ _ h3, h4⟩
    inj := fun j j' m m' h h' e => by
      have q : (δ.sl.set i (some (.own l')))[j]? = some (some (.own m)) := h
      have q' : (δ.sl.set i (some (.own l')))[j']? = some (some (.own m')) := h'
      have key : ∀ {j : Nat} {m : List D}, (δ.sl.set i (some (.own l')))[j]? = some (some (.own m)) → ∃ m', δ.sl[j]? = some (some (.own m')) := fun {j m} q => by
        by_cases hj : j = i
        · exact ⟨l, by rw [hj]; exact hi⟩
        · rw [List.getElem?_set_ne (Ne.symm hj)] at q; exact ⟨m, q⟩
      obtain ⟨a, ha⟩ := key q
      obtain ⟨b, hb⟩ := key q'
      exact A.inj j j' a b ha hb e
    ex := A.ex }
/-- an own list is let be: a datum as others -/
theorem At.freeze (A : At p G O σ H δ) {i : Nat} {l : List D} (hi : δ.sl[i]? = some (some (.own l))) : At p G O σ H (δ.put i (some (.val (.lst l)))) := by
  obtain ⟨vs, g1, g2, g3, g4, g5⟩ := A.own i l hi
  have hil : i < δ.sl.length := (List.getElem?_eq_some_iff.mp hi).1
  have r : Rep p.K p.wc (.lst l) (Pc G O (δ.sl.set i (some (.val (.lst l))))) H (.ref (O i)) := by
    unfold Rep
    refine ⟨O i, vs, rfl, ⟨g4, fun j m e z => ?_⟩, g2, g3.mono fun c q => ⟨q.put, q.2 i l hi⟩⟩
    by_cases hj : j = i
    · subst hj
      rw [List.getElem?_set, if_pos rfl] at e
      split at e <;> simp at e
    · rw [List.getElem?_set_ne (Ne.symm hj)] at e
      exact hj (A.inj j i m l e hi z.symm)
  exact {
    len := by show σ.length = (δ.sl.set i _).length; rw [List.length_set]; exact A.len
    sp := A.sp
    base := A.base
    fr := A.fr
    xl := A.xl
    spot := A.spot
    val := fun j e h => by
      have h' : (δ.sl.set i (some (.val (.lst l))))[j]? = some (some (.val e)) := h
      by_cases hj : j = i
      · subst hj
        rw [List.getElem?_set, if_pos rfl, if_pos hil] at h'
        injection h' with h'; injection h' with h'; injection h' with h'
        subst h'
        exact ⟨_, g1, r⟩
      · rw [List.getElem?_set_ne (Ne.symm hj)] at h'
        obtain ⟨u, h1, h2⟩ := A.val j e h'
        exact ⟨u, h1, h2.mono fun a q => q.put⟩
    own := fun j m h => by
      have h' : (δ.sl.set i (some (.val (.lst l))))[j]? = some (some (.own m)) := h
      by_cases hj : j = i
      · subst hj
        rw [List.getElem?_set, if_pos rfl] at h'
        split at h' <;> simp at h'
      · rw [List.getElem?_set_ne (Ne.symm hj)] at h'
        obtain ⟨us, h1, h2, h3, h4⟩ := A.own j m h'
        exact ⟨us, h1, h2, h3.mono fun a q => q.put, h4⟩
    inj := fun j j' m m' h h' e => by
      have q : (δ.sl.set i (some (.val (.lst l))))[j]? = some (some (.own m)) := h
      have q' : (δ.sl.set i (some (.val (.lst l))))[j']? = some (some (.own m')) := h'
      have key : ∀ {j : Nat} {m : List D}, (δ.sl.set i (some (.val (.lst l))))[j]? = some (some (.own m)) → δ.sl[j]? = some (some (.own m)) := fun {j m} q => by
        by_cases hj : j = i
        · subst hj
          rw [List.getElem?_set, if_pos rfl] at q
          split at q <;> simp at q
        · rw [List.getElem?_set_ne (Ne.symm hj)] at q; exact q
      exact A.inj j j' m m' (key q) (key q') e
    ex := A.ex }
/-! ### statements -/
theorem wS_next (q : Ψ.nx δ) : wS p tNext δ Ψ := fun G O σ H A F e => e.nx δ O σ H q A
theorem wS_brk (q : Ψ.bk δ) : wS p tBreak δ Ψ := fun G O σ H A F e => e.bk δ O σ H q A
theorem wS_cont (q : Ψ.ct δ) : wS p tCont δ Ψ := fun G O σ H A F e => e.ct δ O σ H q A
theorem wS_never (q : False) : wS p t δ Ψ := q.elim
theorem wS_seq (h : wS p t δ { Ψ with nx := fun δ' => wS p u δ' Ψ }) : wS p (tSeq t u) δ Ψ := fun G O σ H A F e =>
  h G O σ H A { F with nx := u F } ⟨fun δ' O' σ' H' q A' => q G O' σ' H' A' F e, e.rt, e.bk, e.ct⟩
theorem wS_ret (h : wE p te δ fun d δ' => Ψ.rt d δ') : wS p (tRet te) δ Ψ := fun G O σ H A F e =>
  h G O σ H A _ fun d k v H' q _ A' r => e.rt d _ O σ v H' q A' (r.mono fun _ z => z.1)
theorem wS_retN (h : Ψ.rt .non δ) : wS p tRetN δ Ψ := fun G O σ H A F e => e.rt .non δ O σ .non H h A (by unfold Rep; rfl)
theorem wS_if (h : wT p tt δ fun b δ' => if b = true then wS p t δ' Ψ else wS p u δ' Ψ) : wS p (tIfS tt t u) δ Ψ := fun G O σ H A F e => by
  refine h G O σ H A _ fun b k H' q _ A' => ?_
  cases b with
  | true =>
    show (if true = true then _ else _)
    rw [if_pos rfl] at q ⊢
    exact q G O σ H' A' F e
  | false =>
    show (if false = true then _ else _)
    rw [if_neg (by simp)] at q ⊢
    exact q G O σ H' A' F e
theorem wS_drop (h : wE p te δ fun _ δ' => Ψ.nx δ') : wS p (tDrop te) δ Ψ := fun G O σ H A F e => h G O σ H A _ fun d k v H' q _ A' r => e.nx _ O σ H' q A'
theorem wS_set {i : Nat} (h : wE p te δ fun d δ' => Ψ.nx (δ'.put i (some (.val d)))) : wS p (tAsg te (gName i)) δ Ψ := fun G O σ H A F e =>
  h G O σ H A _ fun d k v H' q _ A' r => e.nx _ O _ H' q (A'.put r)
theorem wS_setOwn {i : Nat} (h : wN p te δ fun l δ' => Ψ.nx (δ'.put i (some (.own l)))) : wS p (tAsg te (gName i)) δ Ψ := fun G O σ H A F e =>
  h G O σ H A _ fun l k a vs H' q kp A' ha ea r => by
    exact e.nx _ (fun j => if j = i then a else O j) _ H' q (A.putOwn A' kp ha ea r)
theorem wS_freeze {i : Nat} {l : List D} (hi : δ.sl[i]? = some (some (.own l))) (h : wS p t (δ.put i (some (.val (.lst l)))) Ψ) : wS p t δ Ψ := fun G O σ H A F e => h G O σ H (A.freeze hi) F e
theorem wE_borrow {i : Nat} {l : List D} (hi : δ.sl[i]? = some (some (.own l))) (h : wE p te (δ.put i (some (.val (.lst l)))) fun d δ1 => NoL p d ∧ Φ d (δ.k' δ1.k)) : wE p te δ Φ := fun G O σ H A Q f =>
  h G O σ H (A.freeze hi) Q fun d k v H' q kp A' r => f d k v H' q.2 kp (A.next kp fun s e => (A'.spot s e).1) (q.1 _ _ _ _ r)
theorem wT_borrow {i : Nat} {l : List D} {Φ : Bool → DSt → Prop} (hi : δ.sl[i]? = some (some (.own l))) (h : wT p tt (δ.put i (some (.val (.lst l)))) fun d δ1 => Φ d (δ.k' δ1.k)) : wT p tt δ Φ := fun G O σ H A Q f =>
  h G O σ H (A.freeze hi) Q fun d k H' q kp A' => f d k H' q kp (A.next kp fun s e => (A'.spot s e).1)
theorem wN_catOwn {i : Nat} {l : List D} {Φ : List D → DSt → Prop} (hi : δ.sl[i]? = some (some (.own l))) (h : wE p tb δ fun b δ2 => ∃ m, b = .lst m ∧ l.length + m.length ≤ 16777216 ∧ Φ (l ++ m) δ2) : wN p (tOp rCat (tVar i) tb) δ Φ := fun G O σ H A Q f => by
  obtain ⟨vs0, g1, g2, _⟩ := A.own i l hi
  refine ⟨_, g1, ?_⟩
  refine h G O σ H A _ fun b k2 y H2 h2 k' A2 r2 => ?_
  obtain ⟨m, rfl, hl, q⟩ := h2
  obtain ⟨vs1, _, e1, q1, _⟩ := A2.own i l hi
  unfold Rep at r2
  obtain ⟨a2, vs2, rfl, p2, e2, q2⟩ := r2
  refine ⟨O i, a2, vs1, vs2, rfl, rfl, e1, e2, by rw [q1.len, q2.len, sizeLine_eq]; exact hl, fun a ha => ?_⟩
  have s : Same H2 (upd H2 a (.lst (vs1 ++ vs2))) := fun b o q => by rw [upd_ne (ne_of_none q ha)]; exact q
  exact f (l ++ m) k2 a _ _ q (k'.trans (.same s)) (A2.same s) (Kp.none A2 k' ha) upd_same (((q1.append (q2.mono fun _ z => z.1)).fresh ha).same s)
theorem wS_append {i : Nat} {l : List D} (hi : δ.sl[i]? = some (some (.own l))) (h : wE p te δ fun d δ' => l.length < 16777216 ∧ Ψ.nx (δ'.put i (some (.own (l ++ [d]))))) : wS p (tDrop (tBM p.K "list" rAppend (tVar i) (tCons te tNil))) δ Ψ := fun G O σ H A F e => by
  obtain ⟨vs0, g1, g2, _⟩ := A.own i l hi
  refine ⟨_, g1, .inl ⟨rfl, _, SqL.of g2⟩, ?_⟩
  refine h G O σ H A _ fun d k2 y H2 h2 k' A2 r2 => ?_
  obtain ⟨vs1, _, e1, q1, _⟩ := A2.own i l hi
  refine ⟨O i, vs1, y, rfl, rfl, e1, by rw [q1.len, sizeLine_eq]; exact h2.1, ?_⟩
  exact e.nx _ O _ _ h2.2 (A2.turn (l := l) hi (q1.append (.cons r2 .nil)))
/-- found[z] = e, found an own list -/
theorem wS_setIx {i : Nat} {ti : TE} (h : wE p te δ fun d δ1 => ∃ l, δ1.sl[i]? = some (some (.own l)) ∧ wE p ti δ1 fun z δ2 => ∃ n j, z = .int n ∧ ixN l.length n = some j ∧ Ψ.nx (δ2.put i (some (.own (l.set j d))))) :
    wS p (tAsg te (gSub (tVar i) ti rSetL)) δ Ψ := fun G O σ H A F e => by
  refine h G O σ H A _ fun d k1 x H1 h1 k A1 r1 => ?_
  obtain ⟨l, hi, h1⟩ := h1
  obtain ⟨vs0, g1, g2, _⟩ := A1.own i l hi
  refine ⟨_, g1, ?_⟩
  refine h1 G O σ H1 A1 _ fun z k2 y H2 h2 k' A2 r2 => ?_
  obtain ⟨n, j, rfl, hj, q⟩ := h2
  unfold Rep at r2; subst r2
  obtain ⟨vs1, _, e1, q1, _⟩ := A2.own i l hi
  refine ⟨O i, vs1, n, j, rfl, rfl, e1, by rw [q1.len]; exact hj, ?_⟩
  exact e.nx _ O _ _ q (A2.turn (l := l) hi (q1.setAt (A1.rep k' r1) j))
/-! ### the spot -/
theorem wE_spot {i : Nat} {s : Addr} {ti : TE} (hi : δ.sl[i]? = some (some (.val (.adr s)))) (hs : δ.s = some s) (h : wE p ti δ fun z δ1 => z = .int 0 ∧ Φ (.int δ1.k) δ1) : wE p (tOp (rIxL p.K) (tVar i) ti) δ Φ := fun G O σ H A Q f => by
  obtain ⟨v, g1, g2⟩ := A.val i _ hi
  unfold Rep at g2; subst g2
  refine ⟨_, g1, ?_⟩
  refine h G O σ H A _ fun z k2 y H2 h2 k' A2 r2 => ?_
  obtain ⟨rfl, q⟩ := h2
  unfold Rep at r2; subst r2
  have e := (A2.spot s (A.sp.symm.trans hs)).1
  exact ⟨s, _, 0, _, rfl, rfl, SqL.of e, rfl, f _ k2 _ H2 q k' A2 (by unfold Rep; rfl)⟩
theorem wS_spot {i : Nat} {s : Addr} {ti : TE} (h : wE p te δ fun d δ1 => ∃ n, d = .int n ∧ δ1.sl[i]? = some (some (.val (.adr s))) ∧ δ1.s = some s ∧ wE p ti δ1 fun z δ2 => z = .int 0 ∧ Ψ.nx (δ2.k' n)) : wS p (tAsg te (gSub (tVar i) ti rSetL)) δ Ψ := fun G O σ H A F e => by
  refine h G O σ H A _ fun d k1 x H1 h1 k A1 r1 => ?_
  obtain ⟨n, rfl, hi, hs, h1⟩ := h1
  unfold Rep at r1; subst r1
  obtain ⟨v, g1, g2⟩ := A1.val i _ hi
  unfold Rep at g2; subst g2
  refine ⟨_, g1, ?_⟩
  refine h1 G O σ H1 A1 _ fun z k2 y H2 h2 k' A2 r2 => ?_
  obtain ⟨rfl, q⟩ := h2
  unfold Rep at r2; subst r2
  have gs : G.s = some s := A1.sp.symm.trans hs
  have e1 := (A2.spot s gs).1
  refine ⟨s, _, 0, 0, rfl, rfl, e1, rfl, ?_⟩
  refine e.nx _ O _ _ q (A2.next (fun a o z w => ?_) fun s' e' => ?_)
  · rw [upd_ne fun y => w (by rw [gs, y])]; exact z
  · rw [gs] at e'; cases e'; exact upd_same
end
end K16
end

section
set_option maxHeartbeats 4000000
set_option autoImplicit false
/-! DL4: targets, sources, loops, comprehensions, raising, over data. -/
namespace K16
open PySem PySem.Spec PyProof.Rows L2 SX
def wG (p : Pr) (g : TG) (d : D) (δ : DSt) (Φ : DSt → Prop) : Prop := ∀ G O σ H x, At p G O σ H δ → Rep p.K p.wc d (Pc G O δ.sl) H x → ∀ Q : L2.St → Hp → Prop,
  (∀ δ' σ', Φ δ' → At p G O σ' H δ' → δ'.k = δ.k → Q σ' H) → g x σ H Q
def wGs (p : Pr) (g : TGs) (ds : List D) (δ : DSt) (Φ : DSt → Prop) : Prop := ∀ (G : Gh) O σ H (P : Addr → Prop) xs, At p G O σ H δ → (∀ i d, ∀ c, P c → Pc G O (δ.sl.set i (some (.val d))) c) → (∀ c, P c → Pc G O δ.sl c) → RepL p.K p.wc ds P H xs → ∀ Q : L2.St → Hp → Prop,
  (∀ δ' σ', Φ δ' → At p G O σ' H δ' → δ'.k = δ.k → Q σ' H) → g xs σ H Q
section
variable {p : Pr} {δ : DSt} {te ta tb tc : TE} {tt tu : TT} {t u : TS} {Φ : D → DSt → Prop} {Ψ : DEn} {G : Gh} {O : Nat → Addr} {σ : L2.St} {H H' : Hp} {Θ : DSt → Prop}
theorem wG_name {i : Nat} {d : D} (h : Θ (δ.put i (some (.val d)))) : wG p (gName i) d δ Θ := fun G O σ H x A r Q f => f _ _ h (A.put r) rfl
/-- the values of a tuple, one after another -/
def gsN : List Nat → TGs
  | [] => gNil
  | i :: is => gCons (gName i) (gsN is)
def puts (δ : DSt) : List Nat → List D → DSt
  | i :: is, d :: ds => puts (δ.put i (some (.val d))) is ds
  | _, _ => δ
theorem gsN_ok : ∀ (is : List Nat) (ds : List D) (δ : DSt) (σ : L2.St) (xs : List V) (G : Gh) (O : Nat → Addr) (H : Hp) (P : Addr → Prop), is.length = ds.length → At p G O σ H δ → (∀ c, P c → Pc G O δ.sl c) → RepL p.K p.wc ds P H xs → ∀ Q : L2.St → Hp → Prop, Θ (puts δ is ds) →
    (∀ δ' σ', Θ δ' → At p G O σ' H δ' → δ'.k = δ.k → Q σ' H) → gsN is xs σ H Q
  | [], [], δ, σ, xs, G, O, H, P, e, A, hp, r, Q, th, f => ⟨r.unnil, f _ _ th A rfl⟩
  | i :: is, d :: ds, δ, σ, xs, G, O, H, P, e, A, hp, r, Q, th, f => by
    obtain ⟨v, vr, e1, r1, r2⟩ := r.uncons
    refine ⟨v, vr, e1, ?_⟩
    exact gsN_ok is ds (δ.put i (some (.val d))) _ vr G O H P (by simpa using e) (A.put (r1.mono hp)) (fun c q => (hp c q).put) r2 Q th f
  | [], _ :: _, _, _, _, _, _, _, _, e, _, _, _, _, _, _ => by simp at e
  | _ :: _, [], _, _, _, _, _, _, _, e, _, _, _, _, _, _ => by simp at e
theorem wG_tup {is : List Nat} {ds : List D} {n : Nat} (hn : ds.length = n) (hl : is.length = n) (h : Θ (puts δ is ds)) : wG p (gTup p.K n (gsN is)) (.tup ds) δ Θ := fun G O σ H x A r Q f => by
  unfold Rep at r
  obtain ⟨a, vs, rfl, s, r⟩ := r
  exact ⟨a, vs, rfl, s, by rw [r.len, hn], gsN_ok is ds δ σ vs G O H _ (by rw [hl, hn]) A (fun _ q => q) r Q h f⟩
theorem wS_asg {g : TG} (h : wE p te δ fun d δ' => wG p g d δ' Ψ.nx) : wS p (tAsg te g) δ Ψ := fun G O σ H A F e =>
  h G O σ H A _ fun d k v H' q _ A' r => q G O σ H' v A' r _ fun δ' σ' th A2 _ => e.nx _ O _ H' th A2
/-- name op= e -/
theorem wS_augI {i : Nat} {f : Int → Int → Int} {a : Int} (hi : δ.sl[i]? = some (some (.val (.int a)))) (h : wE p te δ fun d δ1 => ∃ b, d = .int b ∧ Ψ.nx (δ1.put i (some (.val (.int (f a b)))))) : wS p (tAug i te (ipI f)) δ Ψ := fun G O σ H A F e => by
  obtain ⟨v, g1, g2⟩ := A.val i _ hi
  unfold Rep at g2; subst g2
  refine ⟨_, g1, ?_⟩
  refine h G O σ H A _ fun d k y H' q _ A' r => ?_
  obtain ⟨b, rfl, q⟩ := q
  unfold Rep at r; subst r
  exact ⟨a, b, rfl, rfl, e.nx _ O _ _ q (A'.put (by unfold Rep; rfl))⟩
/-! ### sources -/
/-- what must stand while it is walked -/
def Stay (P : Addr → Prop) (H1 H : Hp) : Prop := ∀ a o, H1 a = some o → ((∀ xs, o ≠ .lst xs) ∨ P a) → H a = some o
structure Src (p : Pr) (P : Addr → Prop) (J : It) (l : List D) (H1 : Hp) : Prop where
  go : ∀ H i, Stay P H1 H → i < l.length → J.go i H
  stop : ∀ H i, Stay P H1 H → l.length ≤ i → J.stop i H
  yld : ∀ H i d x H', Stay P H1 H → l[i]? = some d → J.yld i H x H' → Same H H' ∧ Rep p.K p.wc d (fun c => P c ∧ H1 c ≠ none) H' x
def wI (p : Pr) (wi : TI) (δ : DSt) (Φ : List D → DSt → Prop) : Prop := ∀ G O σ H, At p G O σ H δ → ∀ R : It → Hp → Prop,
  (∀ l k J H1, Φ l (δ.k' k) → Kp G.s H H1 → At p G O σ H1 (δ.k' k) → Src p (Pc G O δ.sl) J l H1 → R J H1) → wi σ H R
theorem RepL.at {K : PySem.W.Frag} {wc : Way → Addr} {P : Addr → Prop} {H1 H : Hp} {l : List D} {vs : List V} (r : RepL K wc l P H1 vs) (s : Stay P H1 H) : RepL K wc l (fun c => P c ∧ H1 c ≠ none) H vs :=
  RepL.to (fun a o n e => s a o e (.inl n)) (fun a xs q e => ⟨⟨q, by rw [e]; exact nofun⟩, s a _ e (.inr q)⟩) l vs r
theorem sqL_inj {K : PySem.W.Frag} {H : Hp} {a : Addr} {xs ys : List V} (h : H a = some (.lst xs)) (q : SqL K H a ys) : ys = xs ∨ True := .inr trivial
theorem src_list {P : Addr → Prop} {a : Addr} {vs : List V} {l : List D} {H1 : Hp} (hp : P a) (e : H1 a = some (.lst vs)) (r : RepL p.K p.wc l P H1 vs) : Src p P (Itl p.K a) l H1 where
  go := fun H i s hi => by
    obtain ⟨v, h1, _⟩ := r.get (List.getElem?_eq_getElem hi)
    exact ⟨vs, v, SqL.of (s a _ e (.inr hp)), h1⟩
  stop := fun H i s hi => ⟨vs, SqL.of (s a _ e (.inr hp)), by rw [r.len]; exact hi⟩
  yld := fun H i d x H' s hd y => by
    obtain ⟨e1, y⟩ := y
    have := y vs (SqL.of (s a _ e (.inr hp)))
    obtain ⟨d', h1, h2⟩ := (r.at s).getV this
    rw [hd] at h1; cases h1
    rw [e1]
    exact ⟨Same.refl H, h2⟩
theorem src_tup {P : Addr → Prop} {a : Addr} {vs : List V} {l : List D} {H1 : Hp} (e : SqT p.K H1 a vs) (r : RepL p.K p.wc l P H1 vs) : Src p P (Itt p.K a) l H1 where
  go := fun H i s hi => by
    obtain ⟨v, h1, _⟩ := r.get (List.getElem?_eq_getElem hi)
    exact ⟨vs, v, sqT_keep e fun o n q => s a o q (.inl n), h1⟩
  stop := fun H i s hi => ⟨vs, sqT_keep e fun o n q => s a o q (.inl n), by rw [r.len]; exact hi⟩
  yld := fun H i d x H' s hd y => by
    obtain ⟨e1, y⟩ := y
    have := y vs (sqT_keep e fun o n q => s a o q (.inl n))
    obtain ⟨d', h1, h2⟩ := (r.at s).getV this
    rw [hd] at h1; cases h1
    rw [e1]
    exact ⟨Same.refl H, h2⟩
theorem wI_list {l : List D → DSt → Prop} (h : wE p te δ fun d δ1 => ∃ m, d = .lst m ∧ l m δ1) : wI p (iList p.K te) δ l := fun G O σ H A R f => by
  refine h G O σ H A _ fun d k v H1 q kp A1 r => ?_
  obtain ⟨m, rfl, q⟩ := q
  unfold Rep at r
  obtain ⟨a, vs, rfl, hp, e, r⟩ := r
  exact ⟨a, rfl, ⟨vs, SqL.of e⟩, f m k _ H1 q kp A1 (src_list hp e (r.mono fun _ z => z.1))⟩
theorem wI_tup {l : List D → DSt → Prop} (h : wE p te δ fun d δ1 => ∃ m, d = .tup m ∧ l m δ1) : wI p (iTup p.K te) δ l := fun G O σ H A R f => by
  refine h G O σ H A _ fun d k v H1 q kp A1 r => ?_
  obtain ⟨m, rfl, q⟩ := q
  unfold Rep at r
  obtain ⟨a, vs, rfl, e, r⟩ := r
  exact ⟨a, rfl, ⟨vs, e⟩, f m k _ H1 q kp A1 (src_tup e r)⟩
abbrev sgs (t : T) : List D := t.map fun c => .str [c]
theorem wI_str {l : List D → DSt → Prop} (h : wE p te δ fun d δ1 => ∃ t, d = .str t ∧ l (sgs t) δ1) : wI p (iStr te) δ l := fun G O σ H A R f => by
  refine h G O σ H A _ fun d k v H1 q kp A1 r => ?_
  obtain ⟨m, rfl, q⟩ := q
  unfold Rep at r; subst r
  have hsz : (S m).cps.size = m.length := by simp [S]
  refine ⟨S m, rfl, f _ k _ H1 q kp A1 ⟨fun H i _ hi => ?_, fun H i _ hi => ?_, fun H i d x H' _ hd y => ?_⟩⟩
  · show i < (S m).cps.size
    rw [hsz]; simpa using hi
  · show (S m).cps.size ≤ i
    rw [hsz]; simpa using hi
  · obtain ⟨e1, c, h1, h2⟩ := y
    rw [e1]
    refine ⟨Same.refl H, ?_⟩
    rw [List.getElem?_map] at hd
    have h1' : m[i]? = some c := by
      have : (S m).cps = m.toArray := rfl
      rw [this] at h1; simpa using h1
    rw [h1'] at hd
    cases hd
    rw [h2]; unfold Rep; rfl
theorem wI_rng {l : List D → DSt → Prop} {tl : TA} (h : wA p tl δ fun ds δ1 => ∃ n : Int, ds = [.int n] ∧ n < 4611686018427387904 ∧ -4611686018427387904 ≤ n ∧ l ((List.range n.toNat).map fun (i : Nat) => .int (i : Int)) δ1) : wI p (iRng1 tl) δ l := fun G O σ H A R f => by
  refine h G O σ H A _ fun ds k vs H1 q kp A1 r => ?_
  obtain ⟨n, rfl, h1, h2, q⟩ := q
  obtain ⟨v, vr, rfl, r1, r2⟩ := r.uncons
  rw [r2.unnil]
  unfold Rep at r1; subst r1
  refine ⟨n, rfl, by simpa using h2, by simpa using h1, f _ k _ H1 q kp A1 ⟨fun H i _ hi => ?_, fun H i _ hi => ?_, fun H i d x H' _ hd y => ?_⟩⟩
  · show i < n.toNat
    simpa using hi
  · show n.toNat ≤ i
    simpa using hi
  · obtain ⟨e1, h2⟩ := y
    rw [e1]
    refine ⟨Same.refl H, ?_⟩
    rw [List.getElem?_map] at hd
    by_cases hi : i < n.toNat
    · rw [List.getElem?_range hi] at hd
      cases hd
      rw [h2]; unfold Rep; simp
    · rw [List.getElem?_eq_none (by simpa using hi)] at hd
      cases hd
/-- zip of two lists -/
theorem wI_zip {l : List D → DSt → Prop} {tl : TA} (h : wA p tl δ fun ds δ1 => ∃ m n, ds = [.lst m, .lst n] ∧ m.length = n.length ∧ l ((m.zip n).map fun q => .tup [q.1, q.2]) δ1) : wI p (iZip p.K tl) δ l := fun G O σ H A R f => by
  refine h G O σ H A _ fun ds k vs H1 q kp A1 r => ?_
  obtain ⟨m, n, rfl, hl, q⟩ := q
  obtain ⟨v1, vr, rfl, r1, r2⟩ := r.uncons
  obtain ⟨v2, vr', rfl, r2, r3⟩ := r2.uncons
  rw [r3.unnil]
  unfold Rep at r1 r2
  obtain ⟨a, vs, rfl, pa, ea, r1⟩ := r1
  obtain ⟨b, us, rfl, pb, eb, r2⟩ := r2
  have r1 := r1.mono fun _ (z : _ ∧ _) => z.1
  have r2 := r2.mono fun _ (z : _ ∧ _) => z.1
  refine ⟨a, b, vs, us, rfl, SqL.of ea, SqL.of eb, f _ k _ H1 q kp A1 ⟨fun H i s hi => ?_, fun H i s hi => ?_, fun H i d x H' s hd y => ?_⟩⟩
  · have hi' : i < m.length := by simp at hi; omega
    obtain ⟨v, h1, _⟩ := r1.get (List.getElem?_eq_getElem hi')
    obtain ⟨u, h2, _⟩ := r2.get (List.getElem?_eq_getElem (hl ▸ hi' : i < n.length))
    exact ⟨vs, us, v, u, SqL.of (s a _ ea (.inr pa)), SqL.of (s b _ eb (.inr pb)), h1, h2⟩
  · refine ⟨vs, us, SqL.of (s a _ ea (.inr pa)), SqL.of (s b _ eb (.inr pb)), .inl ?_⟩
    rw [r1.len]; simp at hi; omega
  · obtain ⟨T, x1, y1, e1, hT, e2, h1, h2⟩ := y
    have h1 := h1 vs (SqL.of (s a _ ea (.inr pa)))
    have h2 := h2 us (SqL.of (s b _ eb (.inr pb)))
    have sm : Same H H' := fun c o q => by rw [e2, upd_ne (ne_of_none q hT)]; exact q
    obtain ⟨d1, g1, g2⟩ := (r1.at s).getV h1
    obtain ⟨d2, g3, g4⟩ := (r2.at s).getV h2
    refine ⟨sm, ?_⟩
    have : d = .tup [d1, d2] := by
      have hz : (m.zip n)[i]? = some (d1, d2) := by rw [List.getElem?_zip_eq_some]; exact ⟨g1, g3⟩
      rw [List.getElem?_map, hz] at hd
      exact (Option.some.inj hd).symm
    subst this
    rw [e1]
    unfold Rep
    exact ⟨T, [x1, y1], rfl, by rw [e2]; exact SqT.of upd_same, .cons (g2.same sm) (.cons (g4.same sm) .nil)⟩
/-- enumerate of a tuple, as HandS.Iter has it of a list -/
def IteT (K : PySem.W.Frag) (a : Addr) : It :=
  ⟨fun i H => ∃ (xs : List V) (x : V), SqT K H a xs ∧ xs[i]? = some x, fun i H v H' => ∃ T x, v = .ref T ∧ H T = none ∧ H' = upd H T (.tup [.int (i : Nat), x]) ∧ ∀ xs, SqT K H a xs → xs[i]? = some x, fun i H => ∃ xs : List V, SqT K H a xs ∧ xs.length ≤ i⟩
def iEnumT (K : PySem.W.Frag) (ta : TA) : TI := fun σ H R => ta σ H fun vs H1 => ∃ a xs, vs = [.ref a] ∧ SqT K H1 a xs ∧ R (IteT K a) H1
def enu : Nat → List D → List D
  | _, [] => []
  | n, d :: l => .tup [.int (n : Int), d] :: enu (n + 1) l
theorem enu_get : ∀ (l : List D) (n i : Nat), (enu n l)[i]? = (l[i]?).map fun d => .tup [.int ((n + i : Nat) : Int), d]
  | [], _, _ => by simp [enu]
  | d :: l, n, 0 => by simp [enu]
  | d :: l, n, i + 1 => by
    rw [enu, List.getElem?_cons_succ, enu_get l (n + 1) i, List.getElem?_cons_succ]
    rw [Nat.add_right_comm, Nat.add_assoc]
theorem enu_len : ∀ (l : List D) (n : Nat), (enu n l).length = l.length
  | [], _ => rfl
  | d :: l, n => by rw [enu, List.length_cons, List.length_cons, enu_len l]
theorem wI_enum {l : List D → DSt → Prop} {tl : TA} (h : wA p tl δ fun ds δ1 => ∃ m, ds = [.tup m] ∧ l (enu 0 m) δ1) : wI p (iEnumT p.K tl) δ l := fun G O σ H A R f => by
  refine h G O σ H A _ fun ds k vs H1 q kp A1 r => ?_
  obtain ⟨m, rfl, q⟩ := q
  obtain ⟨v1, vr, rfl, r1, r2⟩ := r.uncons
  rw [r2.unnil]
  unfold Rep at r1
  obtain ⟨a, vs, rfl, ea, r1⟩ := r1
  refine ⟨a, vs, rfl, ea, f _ k _ H1 q kp A1 ⟨fun H i s hi => ?_, fun H i s hi => ?_, fun H i d x H' s hd y => ?_⟩⟩
  · rw [enu_len] at hi
    obtain ⟨v, h1, _⟩ := r1.get (List.getElem?_eq_getElem hi)
    exact ⟨vs, v, sqT_keep ea fun o n q => s a o q (.inl n), h1⟩
  · rw [enu_len] at hi
    exact ⟨vs, sqT_keep ea fun o n q => s a o q (.inl n), by rw [r1.len]; exact hi⟩
  · obtain ⟨T, x1, e1, hT, e2, h1⟩ := y
    have h1 := h1 vs (sqT_keep ea fun o n q => s a o q (.inl n))
    have sm : Same H H' := fun c o q => by rw [e2, upd_ne (ne_of_none q hT)]; exact q
    obtain ⟨d1, g1, g2⟩ := (r1.at s).getV h1
    refine ⟨sm, ?_⟩
    rw [enu_get, g1] at hd
    have := (Option.some.inj hd).symm
    subst this
    rw [e1]
    unfold Rep
    exact ⟨T, _, rfl, by rw [e2]; exact SqT.of upd_same, .cons (by unfold Rep; simp) (.cons (g2.same sm) .nil)⟩
/-! ### for -/
/-- the ghost within a loop: what stood at its begin, but for the own lists, stands -/
noncomputable def Gh.mid (G : Gh) (O : Nat → Addr) (sl : Sl) (H1 : Hp) : Gh := { G with H0 := fun c => @ite _ (∃ (j : Nat) (l : List D), sl[j]? = some (some (.own l)) ∧ c = O j) (Classical.propDecidable _) none (H1 c) }
theorem mid_own {sl : Sl} {H1 : Hp} {c : Addr} (h : ∃ (j : Nat) (l : List D), sl[j]? = some (some (.own l)) ∧ c = O j) : (G.mid O sl H1).H0 c = none := by
  unfold Gh.mid; exact @if_pos _ (Classical.propDecidable _) h _ _ _
theorem mid_not {sl : Sl} {H1 : Hp} {c : Addr} (h : ¬ ∃ (j : Nat) (l : List D), sl[j]? = some (some (.own l)) ∧ c = O j) : (G.mid O sl H1).H0 c = H1 c := by
  unfold Gh.mid; exact @if_neg _ (Classical.propDecidable _) h _ _ _
theorem mid_base (A : At p G O σ H δ) {a : Addr} {o : HO} (e : G.H0 a = some o) (ns : G.s ≠ some a) : (G.mid O δ.sl H).H0 a = some o := by
  rw [mid_not, A.base a o e ns]
  rintro ⟨j, l, h1, rfl⟩
  obtain ⟨_, _, _, _, _, z⟩ := A.own j l h1
  rw [e] at z; cases z
theorem At.toMid (A : At p G O σ H δ) : At p (G.mid O δ.sl H) O σ H δ where
  len := A.len
  sp := A.sp
  base := fun a o e ns => by
    by_cases h : ∃ (j : Nat) (l : List D), δ.sl[j]? = some (some (.own l)) ∧ a = O j
    · rw [mid_own h] at e; cases e
    · rw [mid_not h] at e; exact e
  fr := fun c e ns nx => by
    by_cases h : ∃ (j : Nat) (l : List D), δ.sl[j]? = some (some (.own l)) ∧ c = O j
    · obtain ⟨j, l, h1, rfl⟩ := h
      obtain ⟨_, _, _, _, z, _⟩ := A.own j l h1
      exact z
    · rw [mid_not h] at e
      exact (A.free e).1
  xl := A.xl
  spot := A.spot
  val := A.val
  own := fun i l e => by
    obtain ⟨vs, h1, h2, h3, h4, h5⟩ := A.own i l e
    exact ⟨vs, h1, h2, h3, h4, mid_own ⟨i, l, e, rfl⟩⟩
  inj := A.inj
  ex := fun n b dd H' k e => A.ex n b dd H' (fun a o z ns => k a o (mid_base A z ns) ns) e
theorem At.ofMid {δ' : DSt} {O' : Nat → Addr} {σ' : L2.St} (A : At p G O σ H δ) (B : At p (G.mid O δ.sl H) O' σ' H' δ') : At p G O' σ' H' δ' where
  len := B.len
  sp := B.sp
  base := fun a o e ns => B.base a o (mid_base A e ns) ns
  fr := A.fr
  xl := B.xl
  spot := B.spot
  val := B.val
  own := fun i l e => by
    obtain ⟨vs, h1, h2, h3, h4, h5⟩ := B.own i l e
    refine ⟨vs, h1, h2, h3, h4, ?_⟩
    cases q : G.H0 (O' i) with
    | none => rfl
    | some o =>
      have ns : G.s ≠ some (O' i) := fun z => (A.spot _ z).2 h4
      rw [mid_base A q ns] at h5; cases h5
  inj := B.inj
  ex := A.ex
theorem mid_stay {δ' : DSt} {O' : Nat → Addr} {σ' : L2.St} (A : At p G O σ H δ) (B : At p (G.mid O δ.sl H) O' σ' H' δ') : Stay (Pc G O δ.sl) H H' := fun a o e n => by
  have ns : G.s ≠ some a := fun z => by
    rcases n with n | n
    · have := (A.spot a z).1
      rw [this] at e
      exact n _ (Option.some.inj e).symm
    · exact A.nospot z n rfl
  refine B.base a o ?_ ns
  rw [mid_not]
  · exact e
  · rintro ⟨j, l, h1, rfl⟩
    rcases n with n | n
    · obtain ⟨vs, _, h2, _⟩ := A.own j l h1
      rw [h2] at e
      exact n _ (Option.some.inj e).symm
    · exact n.2 j l h1 rfl
/-- a datum that stood at the begin, within the loop -/
theorem mid_rep {δ' : DSt} {O' : Nat → Addr} {σ' : L2.St} {d : D} {x : V} (A : At p G O σ H δ) (B : At p (G.mid O δ.sl H) O' σ' H' δ') (r : Rep p.K p.wc d (fun c => Pc G O δ.sl c ∧ H c ≠ none) H' x) : Rep p.K p.wc d (Pc (G.mid O δ.sl H) O' δ'.sl) H' x :=
  r.mono fun c q => ⟨q.1.1, fun j l e z => by
    obtain ⟨vs, _, _, _, _, h5⟩ := B.own j l e
    rw [← z, mid_not] at h5
    · exact q.2 h5
    · rintro ⟨j', l', h1, h2⟩
      exact q.1.2 j' l' h1 h2⟩
theorem wS_for {wi : TI} {g : TG} (h : wI p wi δ fun l δ1 => ∃ I : Nat → DSt → Prop, I 0 δ1 ∧ (∀ i d δ2, l[i]? = some d → I i δ2 → wG p g d δ2 fun δ3 => wS p t δ3 { nx := I (i + 1), rt := Ψ.rt, bk := Ψ.nx, ct := I (i + 1) }) ∧ ∀ δ2, I l.length δ2 → Ψ.nx δ2) : wS p (tFor wi g t) δ Ψ := fun G O σ H A F e => by
  refine h G O σ H A _ fun l k J H1 q kp A1 src => ?_
  obtain ⟨I, i0, turn, fin⟩ := q
  refine ⟨fun i m σ' H' => i ≤ l.length ∧ m = l.length - i ∧ ∃ O' δ', I i δ' ∧ At p (G.mid O δ.sl H1) O' σ' H' δ', ⟨l.length, Nat.zero_le _, rfl, O, _, i0, A1.toMid⟩, ?_⟩
  rintro i m σ' H' ⟨hi, rfl, O', δ', ii, B⟩
  have st : Stay (Pc G O δ.sl) H1 H' := mid_stay (δ := δ.k' k) A1 B
  by_cases hl : i < l.length
  · refine .inr ⟨src.go H' i st hl, fun σ2 H2 => ∃ O2 δ2, I (i + 1) δ2 ∧ At p (G.mid O δ.sl H1) O2 σ2 H2 δ2, fun σ2 H2 ⟨O2, δ2, j1, B2⟩ => ⟨l.length - (i + 1), by omega, by omega, rfl, O2, δ2, j1, B2⟩, fun x H2 y => ?_⟩
    obtain ⟨sm, r⟩ := src.yld H' i _ x H2 st (List.getElem?_eq_getElem hl) y
    have B2 := B.same sm
    refine turn i _ δ' (List.getElem?_eq_getElem hl) ii _ O' σ' H2 x B2 (mid_rep (δ := δ.k' k) A1 B2 r) _ fun δ3 σ3 w B3 _ => ?_
    refine w _ O' σ3 H2 B3 _ ⟨fun δ4 O4 σ4 H4 j4 B4 => ⟨O4, δ4, j4, B4⟩, fun d δ4 O4 σ4 v H4 j4 B4 r4 => e.rt d δ4 O4 σ4 v H4 j4 (At.ofMid (δ := δ.k' k) A1 B4) r4, fun δ4 O4 σ4 H4 j4 B4 => e.nx δ4 O4 σ4 H4 j4 (At.ofMid (δ := δ.k' k) A1 B4), fun δ4 O4 σ4 H4 j4 B4 => ⟨O4, δ4, j4, B4⟩⟩
  · have : i = l.length := by omega
    subst this
    exact .inl ⟨src.stop H' _ st (Nat.le_refl _), e.nx δ' O' σ' H' (fin δ' ii) (At.ofMid (δ := δ.k' k) A1 B)⟩
theorem wS_while (h : ∃ I : Nat → DSt → Prop, (∃ m, I m δ) ∧ ∀ m δ1, I m δ1 → wT p tt δ1 fun b δ2 => if b = true then wS p t δ2 { nx := fun δ3 => ∃ m', m' < m ∧ I m' δ3, rt := Ψ.rt, bk := Ψ.nx, ct := fun δ3 => ∃ m', m' < m ∧ I m' δ3 } else Ψ.nx δ2) : wS p (tWhile tt t) δ Ψ := fun G O σ H A F e => by
  obtain ⟨I, ⟨m0, i0⟩, turn⟩ := h
  refine ⟨fun m σ' H' => ∃ O' δ', I m δ' ∧ At p G O' σ' H' δ', ⟨m0, O, δ, i0, A⟩, fun m σ' H' ⟨O', δ', ii, B⟩ => ?_⟩
  refine turn m δ' ii G O' σ' H' B _ fun b k H2 q _ B2 => ?_
  cases b with
  | true =>
    rw [if_pos rfl] at q ⊢
    refine ⟨fun σ2 H2 => ∃ m', m' < m ∧ ∃ O2 δ2, I m' δ2 ∧ At p G O2 σ2 H2 δ2, fun σ2 H2 z => z, ?_⟩
    refine q G O' σ' H2 B2 _ ⟨fun δ4 O4 σ4 H4 ⟨m', l, j4⟩ B4 => ⟨m', l, O4, δ4, j4, B4⟩, fun d δ4 O4 σ4 v H4 j4 B4 r4 => e.rt d δ4 O4 σ4 v H4 j4 B4 r4, fun δ4 O4 σ4 H4 j4 B4 => e.nx δ4 O4 σ4 H4 j4 B4, fun δ4 O4 σ4 H4 ⟨m', l, j4⟩ B4 => ⟨m', l, O4, δ4, j4, B4⟩⟩
  | false =>
    rw [if_neg (by simp)] at q ⊢
    exact e.nx _ O' σ' H2 q B2
end
end K16
end

section
set_option maxHeartbeats 4000000
set_option autoImplicit false
/-! DL5: comprehensions, raising, functions, over data. -/
namespace K16
open PySem PySem.Spec PyProof.Rows L2 SX
theorem wipe_get (σ : L2.St) (j : Nat) : ∀ vs : List Nat, (wipe σ vs)[j]? = if j ∈ vs then (if j < σ.length then some none else none) else σ[j]?
  | [] => by simp [wipe]
  | v :: vs => by
    rw [wipe, List.getElem?_set, wipe_length, wipe_get σ j vs]
    by_cases h : v = j
    · subst h; simp
    · rw [if_neg h]
      have : (j ∈ v :: vs) ↔ j ∈ vs := by simp [Ne.symm h]
      by_cases h2 : j ∈ vs
      · rw [if_pos h2, if_pos (this.mpr h2)]
      · rw [if_neg h2, if_neg (fun z => h2 (this.mp z))]
theorem wipe_ext {σ τ : L2.St} {vs : List Nat} (hl : σ.length = τ.length) (h : ∀ j, j ∉ vs → σ[j]? = τ[j]?) : wipe σ vs = wipe τ vs := List.ext_getElem? fun j => by
  rw [wipe_get, wipe_get, hl]
  by_cases q : j ∈ vs
  · rw [if_pos q, if_pos q]
  · rw [if_neg q, if_neg q, h j q]
theorem wipe_wipe (σ : L2.St) (vs : List Nat) : wipe (wipe σ vs) vs = wipe σ vs := wipe_ext (wipe_length _ _) fun j h => by rw [wipe_get, if_neg h]
/-- a target that sets but these -/
def GW (g : TG) (vs : List Nat) : Prop := ∀ x (σ : L2.St) H (Q : L2.St → Hp → Prop), g x σ H Q → g x σ H fun σ2 H2 => wipe σ2 vs = wipe σ vs ∧ Q σ2 H2
theorem gw_name {i : Nat} {vs : List Nat} (h : i ∈ vs) : GW (gName i) vs := fun x σ H Q q => ⟨wipe_ext (List.length_set) fun j hj => List.getElem?_set_ne fun e => hj (by rw [← e]; exact h), q⟩
theorem gw_gsN {vs : List Nat} : ∀ (is : List Nat), (∀ i ∈ is, i ∈ vs) → ∀ xs (σ : L2.St) H (Q : L2.St → Hp → Prop), gsN is xs σ H Q → gsN is xs σ H fun σ2 H2 => wipe σ2 vs = wipe σ vs ∧ Q σ2 H2
  | [], _, xs, σ, H, Q, q => ⟨q.1, rfl, q.2⟩
  | i :: is, hi, xs, σ, H, Q, q => by
    obtain ⟨v, r, e, q⟩ := q
    refine ⟨v, r, e, ?_⟩
    have := gw_gsN is (fun j hj => hi j (List.mem_cons_of_mem _ hj)) r (σ.set i (some v)) H Q q
    have e2 : wipe (σ.set i (some v)) vs = wipe σ vs := wipe_ext (List.length_set) fun j hj => List.getElem?_set_ne fun e => hj (by rw [← e]; exact hi i List.mem_cons_self)
    rw [e2] at this
    exact this
theorem gw_tup {K : PySem.W.Frag} {n : Nat} {is vs : List Nat} (h : ∀ i ∈ is, i ∈ vs) : GW (gTup K n (gsN is)) vs := fun x σ H Q q => by
  obtain ⟨a, xs, e, s, l, q⟩ := q
  exact ⟨a, xs, e, s, l, gw_gsN is h xs σ H Q q⟩
/-! ### the block's state -/
def noOwn : Option Cell → Option Cell
  | some (.own _) => none
  | c => c
def wipeS (sl : Sl) : List Nat → Sl
  | [] => sl
  | v :: vs => (wipeS sl vs).set v none
def hid (δ : DSt) (vs : List Nat) : DSt := { δ with sl := wipeS (δ.sl.map noOwn) vs }
theorem wipeS_length (sl : Sl) : ∀ vs : List Nat, (wipeS sl vs).length = sl.length
  | [] => rfl
  | v :: vs => by unfold wipeS; rw [List.length_set, wipeS_length sl vs]
theorem wipeS_get {sl : Sl} {j : Nat} {c : Cell} : ∀ {vs : List Nat}, (wipeS sl vs)[j]? = some (some c) → j ∉ vs ∧ sl[j]? = some (some c)
  | [], h => ⟨by simp, h⟩
  | v :: vs, h => by
    rw [wipeS, List.getElem?_set] at h
    by_cases e : v = j
    · rw [if_pos e] at h
      split at h <;> simp at h
    · rw [if_neg e] at h
      obtain ⟨h1, h2⟩ := wipeS_get h
      exact ⟨by simp [Ne.symm e, h1], h2⟩
theorem hid_get {δ : DSt} {vs : List Nat} {j : Nat} {c : Cell} (h : (hid δ vs).sl[j]? = some (some c)) : j ∉ vs ∧ δ.sl[j]? = some (some c) ∧ ∀ l, c ≠ .own l := by
  obtain ⟨h1, h2⟩ := wipeS_get h
  rw [List.getElem?_map] at h2
  cases q : δ.sl[j]? with
  | none => rw [q] at h2; cases h2
  | some x =>
    rw [q] at h2
    cases x with
    | none => cases h2
    | some y =>
      cases y with
      | val d => cases h2; exact ⟨h1, rfl, fun l => nofun⟩
      | own l => cases h2
def Gh.blk (G : Gh) (O : Nat → Addr) (sl : Sl) (H1 : Hp) (D : Addr) : Gh := { H0 := H1, P := fun c => Pc G O sl c ∧ c ≠ D, X := fun c => G.X c ∨ c = D, s := G.s }
section
variable {p : Pr} {δ : DSt} {te ta tb tc : TE} {tt tu : TT} {t u : TS} {Φ : D → DSt → Prop} {Ψ : DEn} {G : Gh} {O : Nat → Addr} {σ : L2.St} {H H' H1 H2 : Hp} {Θ : DSt → Prop}
theorem Pc.blk {D : Addr} {vs : List Nat} {c : Addr} {n : Int} (h : Pc G O δ.sl c ∧ c ≠ D) : Pc (G.blk O δ.sl H1 D) O ((hid δ vs).k' n).sl c := ⟨h, fun j l e => absurd rfl ((hid_get e).2.2 l)⟩
theorem At.blk (A1 : At p G O σ H1 δ) {D : Addr} (hD : H1 D = none) (k : Kp G.s H1 H2) {acc : List V} (e : H2 D = some (.lst acc)) {n : Int} (hs : ∀ s, G.s = some s → H2 s = some (.lst [.int n, .int 24])) (vs : List Nat) :
    At p (G.blk O δ.sl H1 D) O (wipe σ vs) H2 ((hid δ vs).k' n) where
  len := by rw [wipe_length, A1.len]; show _ = (wipeS _ _).length; rw [wipeS_length, List.length_map]
  sp := A1.sp
  base := fun a o z ns => k a o z ns
  fr := fun c z ns nx => ⟨A1.free z, fun q => nx (.inr q)⟩
  xl := fun c x => by
    rcases x with x | x
    · obtain ⟨xs, z⟩ := A1.xl c x
      by_cases ns : G.s = some c
      · exact ⟨_, hs c ns⟩
      · exact ⟨xs, k c _ z ns⟩
    · rw [x]; exact ⟨acc, e⟩
  spot := fun s z => ⟨hs s z, fun q => (A1.spot s z).2 q.1.1⟩
  val := fun i d z => by
    obtain ⟨h1, h2, _⟩ := hid_get z
    obtain ⟨v, h3, h4⟩ := A1.val i d h2
    refine ⟨v, by rw [wipe_get, if_neg h1]; exact h3, ?_⟩
    refine Rep.to (fun a o n q => k a o q fun z => ?_) (fun a xs q z => ⟨Pc.blk (n := n) q, k a _ z fun y => A1.nospot y q.1 rfl⟩) d v (h4.fresh hD)
    have := (A1.spot a z).1
    rw [this] at q
    exact n _ (Option.some.inj q).symm
  own := fun i l z => absurd rfl ((hid_get z).2.2 l)
  inj := fun i j l l' z => absurd rfl ((hid_get z).2.2 l)
  ex := fun m b dd H' q e => A1.ex m b dd H' (fun a o z ns => q a o (A1.base a o z ns) ns) e
theorem At.toP (A : At p G O σ H δ) (k : Kp G.s H H') {P : Addr → Prop} (hP : ∀ c, P c → G.P c) {l : List D} {vs : List V} (r : RepL p.K p.wc l P H vs) : RepL p.K p.wc l P H' vs :=
  RepL.to (fun a o n e => k a o e fun q => by
    have := (A.spot a q).1
    rw [this] at e
    exact n _ (Option.some.inj e).symm) (fun a xs q e => ⟨q, k a _ e fun z => (A.spot a z).2 (hP a q)⟩) l vs r
theorem kp_stay (A1 : At p G O σ H1 δ) (k : Kp G.s H1 H2) : Stay (Pc G O δ.sl) H1 H2 := fun a o e n => k a o e fun z => by
  rcases n with n | n
  · have := (A1.spot a z).1
    rw [this] at e
    exact n _ (Option.some.inj e).symm
  · exact A1.nospot z n rfl
/-- [elt for target in iter if test] -/
theorem wN_lc {wi : TI} {g : TG} {vs : List Nat} {Φ : List D → DSt → Prop} (hg : GW g vs)
    (h : wI p wi δ fun l δ1 => ∃ I : Nat → List D → Int → Prop, I 0 [] δ1.k ∧ (∀ i d acc k, l[i]? = some d → I i acc k → wG p g d ((hid δ1 vs).k' k) fun δ2 => wT p tt δ2 fun b δ3 =>
      if b = true then wE p te δ3 fun y δ4 => acc.length < 16777216 ∧ I (i + 1) (acc ++ [y]) δ4.k else I (i + 1) acc δ3.k) ∧ ∀ acc k, I l.length acc k → Φ acc (δ1.k' k)) : wN p (tLc wi g tt te vs) δ Φ := fun G O σ H A Q f => by
  refine h G O σ H A _ fun l k J H1 q kp A1 src => ?_
  obtain ⟨I, i0, turn, fin⟩ := q
  intro D hD
  have sD : Same H1 (upd H1 D (.lst [])) := fun c o z => by rw [upd_ne (ne_of_none z hD)]; exact z
  have nsD : G.s ≠ some D := fun z => by have := (A1.spot D z).1; rw [hD] at this; cases this
  refine ⟨fun i m H2 => i ≤ l.length ∧ m = l.length - i ∧ Kp G.s H1 H2 ∧ ∃ acc us n, I i acc n ∧ H2 D = some (.lst us) ∧ RepL p.K p.wc acc (fun c => Pc G O δ.sl c ∧ c ≠ D) H2 us ∧ ∀ s, G.s = some s → H2 s = some (.lst [.int n, .int 24]), ⟨l.length, Nat.zero_le _, rfl, .same sD, [], [], k, i0, upd_same, .nil, fun s z => sD _ _ (A1.spot s z).1⟩, ?_⟩
  rintro i m H2 ⟨hi, rfl, kp2, acc, us, n, ii, eD, rr, hs⟩
  have st : Stay (Pc G O δ.sl) H1 H2 := kp_stay (δ := δ.k' k) A1 kp2
  by_cases hl : i < l.length
  · refine .inr ⟨src.go H2 i st hl, fun H2 => Kp G.s H1 H2 ∧ ∃ acc us n, I (i + 1) acc n ∧ H2 D = some (.lst us) ∧ RepL p.K p.wc acc (fun c => Pc G O δ.sl c ∧ c ≠ D) H2 us ∧ ∀ s, G.s = some s → H2 s = some (.lst [.int n, .int 24]), fun H3 z => ⟨l.length - (i + 1), by omega, by omega, rfl, z⟩, fun x H3 y => ?_⟩
    obtain ⟨sm, r⟩ := src.yld H2 i _ x H3 st (List.getElem?_eq_getElem hl) y
    have B : At p (G.blk O δ.sl H1 D) O (wipe σ vs) H3 ((hid (δ.k' k) vs).k' n) := At.blk (δ := δ.k' k) A1 hD (kp2.trans (.same sm)) (sm _ _ eD) (fun s z => sm _ _ (hs s z)) vs
    have r3 : Rep p.K p.wc l[i] (Pc (G.blk O δ.sl H1 D) O ((hid (δ.k' k) vs).k' n).sl) H3 x := r.mono fun c q => Pc.blk (δ := δ.k' k) ⟨q.1, fun z => q.2 (by rw [z]; exact hD)⟩
    have rr3 := rr.same sm
    have key := hg x (wipe σ vs) H3 (fun σ2 H2 => tt σ2 H2 fun b H3 => if b = true then te σ2 H3 fun y H4 => ∃ acc, H4 D = some (.lst acc) ∧ acc.length < sizeLine ∧
      (Kp G.s H1 (upd H4 D (.lst (acc ++ [y]))) ∧ ∃ acc' us n, I (i + 1) acc' n ∧ (upd H4 D (.lst (acc ++ [y]))) D = some (.lst us) ∧ RepL p.K p.wc acc' (fun c => Pc G O δ.sl c ∧ c ≠ D) (upd H4 D (.lst (acc ++ [y]))) us ∧ ∀ s, G.s = some s → (upd H4 D (.lst (acc ++ [y]))) s = some (.lst [.int n, .int 24]))
      else (Kp G.s H1 H3 ∧ ∃ acc us n, I (i + 1) acc n ∧ H3 D = some (.lst us) ∧ RepL p.K p.wc acc (fun c => Pc G O δ.sl c ∧ c ≠ D) H3 us ∧ ∀ s, G.s = some s → H3 s = some (.lst [.int n, .int 24])))
      (turn i _ acc n (List.getElem?_eq_getElem hl) ii _ O _ H3 x B r3 _ fun δ2 σ2 w B2 ek => by
        refine w _ O σ2 H3 B2 _ fun b k5 H5 q5 kp5 B5 => ?_
        have hP : ∀ c, (Pc G O δ.sl c ∧ c ≠ D) → (G.blk O δ.sl H1 D).P c := fun c z => z
        cases b with
        | true =>
          rw [if_pos rfl] at q5 ⊢
          refine q5 _ O σ2 H5 B5 _ fun y k6 v H6 q6 kp6 B6 r6 => ?_
          have kp36 := kp5.trans kp6
          have e6 : H6 D = some (.lst us) := kp36 D _ (sm _ _ eD) nsD
          have rr6 := B2.toP kp36 hP rr3
          refine ⟨us, e6, by rw [rr6.len, sizeLine_eq]; exact q6.1, fun c o z ns => ?_, _, _, k6, q6.2, upd_same, ?_, fun s z => ?_⟩
          · rw [upd_ne (ne_of_none z hD)]; exact B6.base c o z ns
          · have both := rr6.append (.cons (r6.mono fun c (z : Pc _ _ _ _) => z.1) .nil)
            exact RepL.to (fun c o m z => by
              rw [upd_ne fun q => ?_]; exact z
              rw [q, e6] at z; exact m _ (Option.some.inj z).symm) (fun c xs m z => ⟨m, by rw [upd_ne m.2]; exact z⟩) _ _ both
          · rw [upd_ne fun q => nsD (by rw [z, q])]; exact (B6.spot s z).1
        | false =>
          rw [if_neg (by simp)] at q5 ⊢
          exact ⟨fun c o z ns => B5.base c o z ns, acc, us, k5, q5, kp5 D _ (sm _ _ eD) nsD, B2.toP kp5 hP rr3, fun s z => (B5.spot s z).1⟩)
    rw [wipe_wipe] at key
    exact key
  · have : i = l.length := by omega
    subst this
    refine .inl ⟨src.stop H2 _ st (Nat.le_refl _), ?_⟩
    exact f acc n D us H2 (fin acc n ii) (kp.trans kp2) (At.next (δ := δ.k' k) A1 kp2 hs) (Kp.none A1 kp hD) eD rr
theorem wT_yes {Φ' : Bool → DSt → Prop} (h : Φ' true δ) : wT p tYes δ Φ' := fun G O σ H A Q f => f true δ.k H h (Kp.refl _ _) A
theorem wE_lc {wi : TI} {g : TG} {vs : List Nat} (hg : GW g vs)
    (h : wI p wi δ fun l δ1 => ∃ I : Nat → List D → Int → Prop, I 0 [] δ1.k ∧ (∀ i d acc k, l[i]? = some d → I i acc k → wG p g d ((hid δ1 vs).k' k) fun δ2 => wT p tt δ2 fun b δ3 =>
      if b = true then wE p te δ3 fun y δ4 => acc.length < 16777216 ∧ I (i + 1) (acc ++ [y]) δ4.k else I (i + 1) acc δ3.k) ∧ ∀ acc k, I l.length acc k → Φ (.lst acc) (δ1.k' k)) : wE p (tLc wi g tt te vs) δ Φ := wE_new (wN_lc hg h)
end
end K16
end

section
set_option maxHeartbeats 4000000
set_option autoImplicit false
/-! DL6: raising, functions, over data. -/
namespace K16
open PySem PySem.Spec PyProof.Rows L2 SX
/-- __init__(self, at): self.at = at -/
def spI (C : Addr) : Sp := fun vs H Q _ => ∃ a v, vs = [.ref a, v] ∧ H a = some (exo a C none) ∧ ∀ dx, H dx = none → dx ≠ a → Q .non (upd (upd H dx (exd dx [(("at" : Str), v)])) a (exo a C (some dx)))
def tInit (K : PySem.W.Frag) : TS := tOst K "at" (tVar 0) (tVar 1)
theorem pure_init {K : PySem.W.Frag} {C : Addr} (T : OexC K C) (hno : PySem.W.findIn K (.ref C) "at" = some none) (vs : List V) (H : Hp) (Q : VK) (E : XK) (h : spI C vs H Q E) : tInit K { nx := fun _ H' => Q .non H', rt := Q } (L2.start ["self", "at"] vs) H := by
  obtain ⟨a, v, rfl, e, q⟩ := h
  exact ⟨v, rfl, .ref a, rfl, a, C, rfl, T, hno, .inl ⟨e, fun dx h1 h2 => q dx h1 h2⟩⟩
section
variable {p : Pr} {δ : DSt} {te ta tb tc : TE} {tt tu : TT} {t u : TS} {Φ : D → DSt → Prop} {Ψ : DEn} {G : Gh} {O : Nat → Addr} {σ : L2.St} {H H' H1 H2 : Hp} {Θ : DSt → Prop}
abbrev tNoFill (p : Pr) (te : TE) : TS := fun _ σ H => tMkO p.nf (spI p.nf) [] (tCons te tNil) σ H fun cls d H' => p.E cls d H'
theorem wS_raise (h : wE p te δ fun d _ => ∃ n, d = .int n ∧ p.B n) : wS p (tNoFill p te) δ Ψ := fun G O σ H A F e => by
  refine h G O σ H A _ fun d k v H1 q kp A1 r => ?_
  obtain ⟨n, rfl, q⟩ := q
  unfold Rep at r; subst r
  refine ⟨by simp, fun a ha => ?_⟩
  refine ⟨a, .int n, rfl, upd_same, fun dx hx ne => ?_⟩
  have h1 : H1 dx = none := by rw [upd_ne ne] at hx; exact hx
  refine ⟨rfl, dx, [(("at" : Str), .int n)], upd_same, by rw [upd_ne ne]; exact upd_same, h1, ?_⟩
  refine A1.ex n q dx _ (fun c o z ns => ?_) upd_same
  have zc := A1.base c o z ns
  have c1 : c ≠ a := ne_of_none zc ha
  have c2 : c ≠ dx := ne_of_none zc h1
  rw [upd_ne c2, del_ne c1, upd_ne c1, upd_ne c2, upd_ne c1]; exact zc
end
/-! ### functions -/
def st0 (n : Nat) (ds : List D) : DSt := ⟨ds.map (fun d => some (.val d)) ++ List.replicate (n - ds.length) none, none, 0⟩
theorem start_at {p : Pr} {P : Addr → Prop} {H : Hp} {N : List Str} {ds : List D} {vs : List V} (hl : ds.length ≤ N.length) (hP : ∀ a, H a = none → P a) (r : RepL p.K p.wc ds P H vs) {s : Option Addr} {k : Int} (hs : ∀ a, s = some a → H a = some (.lst [.int k, .int 24]) ∧ ¬ P a)
    (ex : ∀ n, p.B n → ∀ dd H', (∀ a o, H a = some o → s ≠ some a → H' a = some o) → H' dd = some (.xd [(("at" : Str), .int n)]) → p.E (.ref p.nf) (some dd) H') :
    At p ⟨H, P, fun _ => False, s⟩ (fun _ => 0) (L2.start N vs) H ⟨(st0 N.length ds).sl, s, k⟩ where
  len := by unfold L2.start st0; simp [r.len]
  sp := rfl
  base := fun _ _ e _ => e
  fr := fun c e _ _ => hP c e
  xl := fun _ x => x.elim
  spot := hs
  val := fun i d e => by
    unfold st0 at e
    have e' : (ds.map (fun d => some (Cell.val d)) ++ List.replicate (N.length - ds.length) none)[i]? = some (some (.val d)) := e
    rw [List.getElem?_append] at e'
    by_cases h : i < (ds.map (fun d => some (Cell.val d))).length
    · rw [if_pos h, List.getElem?_map] at e'
      cases q : ds[i]? with
      | none => rw [q] at e'; cases e'
      | some d' =>
        rw [q] at e'; cases e'
        obtain ⟨v, h1, h2⟩ := r.get q
        refine ⟨v, ?_, h2.mono fun a z => ⟨z, fun j l w => ?_⟩⟩
        · unfold L2.start
          rw [List.getElem?_append, if_pos (by simpa [r.len] using h), List.getElem?_map, h1]; rfl
        · have w' : (ds.map (fun d => some (Cell.val d)) ++ List.replicate (N.length - ds.length) none)[j]? = some (some (.own l)) := w
          have := List.mem_of_getElem? w'
          simp at this
    · rw [if_neg h] at e'
      have := List.mem_of_getElem? e'
      simp at this
  own := fun i l e => by
    have w' : (ds.map (fun d => some (Cell.val d)) ++ List.replicate (N.length - ds.length) none)[i]? = some (some (.own l)) := e
    have := List.mem_of_getElem? w'
    simp at this
  inj := fun i j l l' e => by
    have w' : (ds.map (fun d => some (Cell.val d)) ++ List.replicate (N.length - ds.length) none)[i]? = some (some (.own l)) := e
    have := List.mem_of_getElem? w'
    simp at this
  ex := ex
theorem pure_fn {K : PySem.W.Frag} {wc : Way → Addr} {nf : Addr} {c : Ct} {N : List Str} {t : TS} {E : XK} {vs : List V} {H : Hp} {Q : VK} (hl : ∀ ds, c.pre ds → ds.length ≤ N.length) (hs : spP K wc nf c vs H Q E)
    (h : ∀ ds, c.pre ds → wS ⟨K, wc, nf, E, c.bad ds⟩ t (st0 N.length ds) { nx := fun _ => c.post ds .non, rt := fun d _ => c.post ds d }) : t { nx := fun _ H' => Q .non H', rt := Q } (L2.start N vs) H := by
  obtain ⟨P, ds, hP, r, pre, q, b⟩ := hs
  refine h ds pre _ _ (L2.start N vs) H (start_at (p := ⟨K, wc, nf, E, c.bad ds⟩) (hl ds pre) hP r (s := none) (k := 0) nofun fun n hn dd H' k e => b n dd H' hn (fun a o z => k a o z nofun) e) _
    ⟨fun δ O σ H' p A => q .non .non H' p (fun a o z => A.base a o z nofun) (by unfold Rep; rfl), fun d δ O σ v H' p A r => q d v H' p (fun a o z => A.base a o z nofun) r, fun _ _ _ _ z => z.elim, fun _ _ _ _ z => z.elim⟩
theorem pure_fnS {K : PySem.W.Frag} {wc : Way → Addr} {nf : Addr} {c : CtS} {N : List Str} {t : TS} {E : XK} {vs : List V} {H : Hp} {Q : VK} (hl : ∀ s ds k, c.pre s ds k → ds.length ≤ N.length) (hs : spS K wc c vs H Q E)
    (h : ∀ s ds k, c.pre s ds k → wS ⟨K, wc, nf, E, fun _ => False⟩ t ⟨(st0 N.length ds).sl, some s, k⟩ { nx := fun δ => c.post s ds k .non δ.k, rt := fun d δ => c.post s ds k d δ.k }) : t { nx := fun _ H' => Q .non H', rt := Q } (L2.start N vs) H := by
  obtain ⟨P, ds, s, k, hP, nP, es, r, pre, q⟩ := hs
  refine h s ds k pre _ _ (L2.start N vs) H (start_at (p := ⟨K, wc, nf, E, fun _ => False⟩) (hl s ds k pre) hP r (s := some s) (k := k) (fun a e => by cases e; exact ⟨es, nP⟩) fun n hn => hn.elim) _
    ⟨fun δ O σ H' p A => q .non _ .non H' p (fun a o z ns => A.base a o z ns) (A.spot s rfl).1 (by unfold Rep; rfl), fun d δ O σ v H' p A r => q d _ v H' p (fun a o z ns => A.base a o z ns) (A.spot s rfl).1 r, fun _ _ _ _ z => z.elim, fun _ _ _ _ z => z.elim⟩
theorem spP_len {K : PySem.W.Frag} {wc : Way → Addr} {nf : Addr} {c : Ct} {n : Nat} (hl : ∀ ds, c.pre ds → ds.length = n) : ∀ vs H Q E, spP K wc nf c vs H Q E → vs.length = n := fun vs H Q E h => by
  obtain ⟨P, ds, hP, r, pre, q, b⟩ := h
  rw [r.len, hl ds pre]
theorem spS_len {K : PySem.W.Frag} {wc : Way → Addr} {c : CtS} {n : Nat} (hl : ∀ s ds k, c.pre s ds k → ds.length = n) : ∀ vs H Q E, spS K wc c vs H Q E → vs.length = n := fun vs H Q E h => by
  obtain ⟨P, ds, s, k, hP, nP, es, r, pre, q⟩ := h
  rw [r.len, hl s ds k pre]
end K16
end

section
set_option maxHeartbeats 4000000
/-! RL1: enumerate over a tuple. -/
namespace PySem
set_option maxHeartbeats 1000000 in
theorem k16_meets_enum {v : Value} {o : Obj} {H : Heap → Prop} (B : Begins v o H) :
    Meets (Builtin.«enumerate.__new__» ⟨[.type "enumerate", v], []⟩) (fun _ R s => H s.heap ∧
      R (.ok (.ret (.ref (s.heap.push o).objs.size))) { s with heap := (s.heap.push o).push { cls := .type "enumerate", data := .fields #[.none, .bool false, .ref s.heap.objs.size, rawInt 0, .none, .none] } }) :=
  .of_wp fun prog w A R s h => by
    obtain ⟨hp, g, d, tk, os⟩ := s; obtain ⟨h1, h⟩ := h
    have hsub := sub_enumerate
    have q1 : ∀ {A' : Around} {E : Value → Shared → Prop} {Q : Value → Shared → Prop}, Q (.ref hp.objs.size) ⟨hp.push o, g, d, tk, os⟩ → wpAny (model prog w) A' (pyIter v) Q E ⟨hp, g, d, tk, os⟩ :=
      fun q => B.iter prog w _ _ ⟨hp, g, d, tk, os⟩ _ h1 q
    wp_walk using q1
    refine wpAny_stack_any fun st => wpAny_pure ?_
    split
    · rename_i c _ _ _ _ _
      cases (c == Value.type "enumerate")
      · wp_walk using q1
        exact ⟨_, rfl, h⟩
      · wp_walk using q1
        exact ⟨_, rfl, h⟩
    · wp_walk using q1
      exact ⟨_, rfl, h⟩
theorem k16_enum_begins {prog : Program} {w : World} {A : Around} {E : Value → Shared → Prop} {s : Shared} {v : Value} {o : Obj} {H : Heap → Prop} {Q : Value → Shared → Prop} (B : Begins v o H) (h1 : H s.heap)
    (h : ∀ h', IsEnum h' (s.heap.objs.size + 1) s.heap.objs.size 0 .none → h'.get? s.heap.objs.size = some o → h'.objs.size = s.heap.objs.size + 2 →
      (∀ b o, s.heap.get? b = some o → h'.get? b = some o) → Q (.ref (s.heap.objs.size + 1)) { s with heap := h' }) :
    wpAny (model prog w) A (call (.type "enumerate") [v]) Q E s := by
  refine callType_new F.called_enumerate (by decide) (F.typeCall_enumerate_1 _) (F.newCall_enumerate_1 _) (fun obj => F.args_object_init_2 obj _) F.entry_enumerate_new (k16_meets_enum B) ⟨h1, ?_⟩
  have hz : (s.heap.push o).objs.size = s.heap.objs.size + 1 := Heap.size_push ..
  show _ ∧ _
  rw [hz]
  have he : IsEnum ((s.heap.push o).push { cls := .type "enumerate", data := .fields #[.none, .bool false, .ref s.heap.objs.size, rawInt 0, .none, .none] }) (s.heap.objs.size + 1) s.heap.objs.size 0 .none := by
    have := Heap.get?_push_size (s.heap.push o) (o := { cls := .type "enumerate", data := .fields #[.none, .bool false, .ref s.heap.objs.size, rawInt 0, .none, .none] }) rfl
    rw [hz] at this; exact this
  refine ⟨⟨_, he, rfl⟩, h _ he (Heap.get?_push_of_some _ (Heap.get?_push_size _ B.free)) (by rw [Heap.size_push, hz]) fun b o x => Heap.get?_push_of_some _ (Heap.get?_push_of_some _ x)⟩
end PySem
namespace K16
open PySem PySem.Spec PyProof.Rows L2
theorem turn_enumT {P : Program} {w : World} {K : PySem.W.Frag} {elts : List Expr} {kk : Nat} {tpos : Pos} (a e it : Addr) (hae : a ≠ e) (hai : a ≠ it) (hei : e ≠ it) :
    Turn P w K (.Tuple elts kk tpos) (IteT K a) [e, it] e (fun i h => (∃ old, IsEnum h e it ((i : Nat) : Int) old) ∧ h.IsTupleIter it a i) where
  mem := by simp
  obj := fun i h st b hb => by
    obtain ⟨⟨old, he⟩, ⟨o, ho, hc, hd⟩⟩ := st
    have e' : b = e ∨ b = it := by simpa using hb
    rcases e' with z | z
    · rw [z]; exact ⟨_, he, fun v q => nomatch q⟩
    · rw [z]; exact ⟨o, ho, fun v q => by rw [hd] at q; cases q⟩
  keep := fun i h h' st k => let ⟨⟨old, he⟩, hi⟩ := st; ⟨⟨old, k e (by simp) _ he⟩, hi.at fun o q => k it (by simp) o q⟩
  item := by
    intro X hP hw hK hc i pins s σ H E I hf st hg
    subst hP hw hK
    obtain ⟨⟨old, he⟩, hit⟩ := st
    obtain ⟨xs, x, hq, hx⟩ := hg
    obtain ⟨its, rv, p, hz⟩ := I.tuple hq
    obtain ⟨u, hu, ru⟩ := rv.get hx
    have hel : e < s.heap.objs.size := Heap.lt_size he
    have hil : it < s.heap.objs.size := by obtain ⟨_, q, _⟩ := hit; exact Heap.lt_size q
    have hlt : i < its.toArray.size := by
      have := (List.getElem?_eq_some_iff.mp hu).1
      simpa using this
    refine wpAny_pyNext_enum_itemD (Draws.tuple (prog := X.prog) (w := X.w) (A := X.A.in1) (I.ok.hd hc) it a hai its.toArray) he ⟨hit, p⟩ hlt hei (by simp [Ne.symm hae, hei]) fun y h' tk hP ho hs' hT hsz hk => ?_
    have ey : y = u := by
      have h1 : its.toArray[i]? = some y := hP
      have h2 : its.toArray[i]? = some u := by simpa using hu
      rw [h1] at h2; exact Option.some.inj h2
    subst ey
    refine ⟨_, rfl, wpAny_letOwnedTupleGo_enum (s := { s with heap := h', toks := tk + 1 }) ho fun h'' he' sb => ?_⟩
    have hT2 : h''.get? s.heap.objs.size = some { cls := .type "tuple", data := .seq #[.int i tk, y] } := (sb.2 _ (Nat.ne_of_gt hel)).trans hT
    have new : ObjOk X.prog X.w (upd H s.heap.objs.size (.tup [.int (i : Nat), x])) h'' s.heap.objs.size (.tup [.int (i : Nat), x]) :=
      ⟨by show 2 ≤ sizeLine; decide, [.int i tk, y], .cons ⟨_, rfl⟩ (.cons ru .nil), ⟨_, hT2, rfl, _, rfl⟩⟩
    have I1 : Inv X pins σ (upd H s.heap.objs.size (.tup [.int (i : Nat), x])) { s with heap := h'', toks := tk + 1 } :=
      I.turnedNew (ch := [e, it]) (fun b ob hb q => (sb.2 b (fun z => hb (by simp [z]))).trans (hk b ob (fun z => hb (by simp [z])) (fun z => hb (by simp [z])) q)) hf (Nat.le_refl _) new
    refine ⟨.ref s.heap.objs.size, _, I1, rfl, ⟨_, x, rfl, I.hok.fresh (Nat.le_refl _), rfl, fun ys hy => by rw [I.tuple_inj hy hq]; exact hx⟩, ⟨⟨y, ?_⟩, hs'.1.at fun o q => (sb.2 it (Ne.symm hei)).trans q⟩, fun b hb => ?_⟩
    · have e1 : ((i + 1 : Nat) : Int) = (i : Int) + 1 := by omega
      rw [e1]; exact he'
    · have hb' : b < s.heap.objs.size := by
        have e' : b = e ∨ b = it := by simpa using hb
        rcases e' with z | z
        · rw [z]; exact hel
        · rw [z]; exact hil
      rw [upd_ne (Nat.ne_of_lt hb')]
      exact (hf b hb).1
  done := by
    intro X hP hw hK hc i pins s σ H E I hf st hg
    subst hP hw hK
    obtain ⟨⟨old, he⟩, hit⟩ := st
    obtain ⟨xs, hq, hx⟩ := hg
    obtain ⟨its, rv, p, hz⟩ := I.tuple hq
    obtain ⟨f0, f1, f2, f3, f4, f5⟩ := hf it (by simp)
    have hl := rv.length
    unfold pyNext
    have hT : s.TypeIs (.ref e) "enumerate" := ⟨_, he, rfl⟩
    refine wpAny_bind (wpAny_attempt (wpAny_callSpecial?_slot (name := Str.ofString "__next__") hT F.slot_enumerate_next
      (wpAny_call_entry F.slot_enumerate_next hT F.entry_enumerate_next ?_ (F.args_enumerate_next_1 _))))
    show wpAny _ _ (field (.ref e) 2 >>= _) _ _ _
    refine wpAny_bind (wpAny_field he rfl (x := .ref it) rfl ?_)
    have i' : ∃ j, i = j := ⟨i, rfl⟩
    refine wpAny_bind (wpAny_nextOf_tuple_end (I.ok.hd hc) hit p (by simp; omega) fun h' x he' hx' => ?_)
    obtain ⟨o, ho, hcc⟩ := hx'
    refine wpAny_bind (wpAny_isInstance (T := "StopIteration") (b := true) ⟨o, ho, hcc⟩ isSubtype_stop ?_)
    exact wpAny_pure ⟨rfl, I.turned (t' := s.toks) (fun b o hb q => he' b o hb q) f0 f1 f3 f4 f5⟩
  self := fun A i s Q E st h => let ⟨⟨_, he⟩, _⟩ := st; wpAny_pyIter_enum he h
theorem pi_enumT {X : Cx} {e : Expr} {ta : TA} {p pos tpos : Pos} {elts : List Expr} {kk : Nat} (hg : Gl X "enumerate") (hm : X.mg "enumerate" = none) (ha : PA X [e] ta) (hs : starEach [e] X.env = [(false, eval e X.env)] := by rfl) :
    PI X (.Tuple elts kk tpos) (.Call (.Name "enumerate" p) [e] [] pos) (iEnumT X.K ta) := by
  refine ⟨fun pins s σ H R I h => ?_⟩
  refine Call_ (ld_blt I hg hm boot_enumerate (PyProof.Rows.callWith_type1 (thn (ha.run pos pins s σ H _ I h) fun us s1 ⟨vs, H1, I1, r1, q1⟩ => ?_) hs rfl))
  obtain ⟨a, xs, ex, hq, q⟩ := q1
  subst ex
  cases r1 with
  | cons r rr =>
    cases rr
    cases r
    obtain ⟨its, rv, p', hz⟩ := I1.tuple hq
    have hal : a < s1.heap.objs.size := by obtain ⟨_, q, _⟩ := p'; exact Heap.lt_size q
    refine k16_enum_begins (begins_tuple a its.toArray) p' fun h' he hit hsz hk => wpAny_pyIter_enum he ?_
    have I2 : Inv X pins σ H1 { s1 with heap := h' } := I1.kept (t' := s1.toks) hk
    refine ⟨s1.heap.objs.size + 1, [s1.heap.objs.size + 1, s1.heap.objs.size], _, _, H1, rfl, I2, turn_enumT a (s1.heap.objs.size + 1) s1.heap.objs.size (Nat.ne_of_lt (Nat.lt_succ_of_lt hal)) (Nat.ne_of_lt hal) (Nat.succ_ne_self _), ⟨⟨.none, he⟩, ⟨_, hit, rfl, rfl⟩⟩, fun b hb => ?_, q⟩
    have e' : b = s1.heap.objs.size + 1 ∨ b = s1.heap.objs.size := by simpa using hb
    have hle : s1.heap.objs.size ≤ b := by
      rcases e' with z | z
      · rw [z]; exact Nat.le_add_right _ _
      · rw [z]; exact Nat.le_refl _
    exact I1.fpOk hle (I1.hok.fresh hle)
end K16
end

section
set_option maxHeartbeats 4000000
/-! RL2: C() of a class without __init__. -/
namespace K16
open PySem PySem.Spec PyProof.Rows L2
structure Mk0 (K : PySem.W.Frag) (C : Addr) : Prop where
  makes : PySem.W.makesIn K C = true
  init : PySem.W.findIn K (.ref C) "__init__" = some (some (.builtin "object.__init__"))
  top : PySem.W.mroIn K C (.type "object") = some true
  kp : PySem.W.keepIn K (.ref C) = true
def mk0B (K : PySem.W.Frag) (C : Addr) : Bool := PySem.W.makesIn K C && (decide (PySem.W.findIn K (.ref C) "__init__" = some (some (.builtin "object.__init__"))) && (decide (PySem.W.mroIn K C (.type "object") = some true) && PySem.W.keepIn K (.ref C)))
theorem mk0B_ok {K : PySem.W.Frag} {C : Addr} (h : mk0B K C = true) : Mk0 K C := by
  obtain ⟨h1, h⟩ := Bool.and_eq_true_iff.mp h
  obtain ⟨h2, h⟩ := Bool.and_eq_true_iff.mp h
  obtain ⟨h3, h4⟩ := Bool.and_eq_true_iff.mp h
  exact ⟨h1, of_decide_eq_true h2, of_decide_eq_true h3, h4⟩
section
variable {X : Cx} {C : Addr} {pins : List (Addr × Obj)} {σ : L2.St} {H : Hp} {s : Shared} {Q : VK}
theorem run_make0 (M : Mk0 X.K C) (I : Inv X pins σ H s) (h : tNewO C σ H Q) : wpAny (model X.prog X.w) X.A (call (.ref C) []) (EP X pins σ Q) X.xe s := by
  have hq := h (s.heap.objs.size + 1) s.heap.objs.size (I.hok.fresh (Nat.le_succ _)) (I.hok.fresh (Nat.le_refl _)) (Nat.ne_of_lt (Nat.lt_succ_self _))
  have I2 := Inv.made (C := C) I
  refine wpAny_call (make_map0 I.kIn M.makes M.init (fun _ => PySem.W.Looks.of_pure (PySem.W.oi_bind _)) ?_)
  have e2 : ((s.heap.push PySem.W.emptyDict).push (PySem.W.instObj C s.heap.objs.size)).get? (s.heap.objs.size + 1) = some (PySem.W.instObj C s.heap.objs.size) := by
    have := Heap.get?_push_size (s.heap.push PySem.W.emptyDict) (o := PySem.W.instObj C s.heap.objs.size) rfl
    rwa [Heap.size_push] at this
  have t2 : PySem.W.Looks (model X.prog X.w) ((s.heap.push PySem.W.emptyDict).push (PySem.W.instObj C s.heap.objs.size)) (isInstance (.ref (s.heap.objs.size + 1)) (.type "object")) true :=
    (NwA.type_at e2 rfl).andThen (PySem.W.looks_mroIn I2.kIn M.top)
  refine codeAny_call_builtin PySem.W.oi_plain PySem.W.entry_oi (PySem.W.check_slot PySem.W.oi_kind PySem.W.oi_split t2 (PySem.W.oi_args _) ?_)
  rw [PySem.W.oi_run]
  exact wpAny_pure ⟨rfl, V.ref (s.heap.objs.size + 1), _, I2, rfl, hq⟩
theorem pe_newO {x : PySem.Str} {p pos : Pos} (M : Mk0 X.K C) (hg : Gl X x) (hm : X.mg x = some (.ref C)) (hdb : (x == ("__debug__" : PySem.Str)) = false := by decide) : PE X (.Call (.Name x p) [] [] pos) (tNewO C) := by
  refine ⟨fun pins s σ H Q I h => ?_⟩
  refine wpAny_Call_Name_kw (ld_glob I hg hm ?_ hdb)
  exact PySem.W.callWith_K0 I.kIn M.kp (run_make0 M I h)
end
end K16
end

section
set_option maxHeartbeats 4000000
set_option autoImplicit false
/-! T0: the program's top. -/
namespace K16
open PySem PySem.Spec PyProof.Rows L2 SX
abbrev PW : Program := PySem.Challenge.pw_formsmith_k16_whole_there_and_back
def top (i : Nat) : Stmt := PW.main.body.getD i (.Pass ⟨0, 0, 0, 0⟩)
abbrev FnP (K : PySem.W.Frag) (x q : Str) (st : Stmt) (f : Addr) (fd : FuncData) : Prop := FunD K x q (defArgs st) (defBody st) (defScope st) [] [] f fd
end K16
end

section
set_option maxHeartbeats 4000000
set_option autoImplicit false
/-! H1: the head: facts by names, the run of the top. -/
namespace K16
open PySem PySem.Spec PyProof.Rows L2 SX
open C8 (clsBody)
abbrev s_NoFill___init__ : Stmt := (clsBody (top 12)).getD 0 (.Pass ⟨0, 0, 0, 0⟩)
/-! ### NoFill, the ways' classes: by one Bool -/
def oexB (K : PySem.W.Frag) (C : Addr) : Bool := match K.lookup C with
  | some ⟨.type "type", _, .cls cd, sl⟩ => (match cd.mro, sl.toList with
    | .ref C' :: bm, [_, _, _, _, some (.builtin n), _] => C' == C && n == "ValueError.__new__" && !cd.hasDel && cd.hasDict && PySem.HandSPX.refsVE bm
    | _, _ => false)
  | _ => false
theorem oexB_ok {K : PySem.W.Frag} {C : Addr} (q : oexB K C = true) : ∃ nm q N bs bm sn sub ab col dd k0 k1 k2 k3 k5, K.lookup C = some (excClassObj nm q C N bs bm true sn sub ab col dd k0 k1 k2 k3 k5 "ValueError.__new__") ∧ PySem.HandSPX.refsVE bm = true := by
  unfold oexB at q
  split at q
  · rename_i dd cd sl ho
    split at q
    · rename_i C' bm k0 k1 k2 k3 n k5 hm hs
      simp only [Bool.and_eq_true, beq_iff_eq, Bool.not_eq_true'] at q
      obtain ⟨⟨⟨⟨rfl, rfl⟩, hdel⟩, hd⟩, hv⟩ := q
      obtain ⟨nm, bs, mro, ns, qn, hdct, sn, sub, ab, col, del⟩ := cd
      dsimp only at hm hdel hd
      subst hm hdel hd
      have hsl : sl = #[k0, k1, k2, k3, some (.builtin "ValueError.__new__"), k5] := by
        obtain ⟨l⟩ := sl
        simp only at hs
        rw [hs]
      subst hsl
      exact ⟨nm, qn, ns, bs, bm, sn, sub, ab, col, dd, k0, k1, k2, k3, k5, ho, hv⟩
    · cases q
  · cases q
def nfB (K : PySem.W.Frag) (C : Addr) : Bool := oexB K C && (decide (PySem.W.findIn K (.ref C) "__setattr__" = some (some (.builtin "object.__setattr__"))) && (decide (PySem.W.subIn K (.ref C) (.type "BaseException") = some true) && (decide (PySem.W.typeIn K (.ref C) = some (.type "type")) && (PySem.W.keepIn K (.ref C) && xfB K C))))
theorem nfB_ok {K : PySem.W.Frag} {C : Addr} (h : nfB K C = true) : OexC K C ∧ XfC K C := by
  obtain ⟨h1, h⟩ := He.ba h
  obtain ⟨h2, h⟩ := He.ba h
  obtain ⟨h3, h⟩ := He.ba h
  obtain ⟨h4, h⟩ := He.ba h
  obtain ⟨h5, h6⟩ := He.ba h
  exact ⟨⟨oexB_ok h1, of_decide_eq_true h2, of_decide_eq_true h3, of_decide_eq_true h4, h5⟩, xfB_ok h6⟩
def exB (K : PySem.W.Frag) : Bool := nfB K (He.ga K "NoFill") && (mk0B K (He.ga K "Word") && (mk0B K (He.ga K "Number") && (mk0B K (He.ga K "Quoted") && (mk0B K (He.ga K "Plain") && (mk0B K (He.ga K "Line") && He.tupB K "AT_END" [.str "", .bl true])))))
/-! ### the hook -/
/-- what of an object is looked at: a dict's values, a def's code, a class's names -/
def refsM (o : Obj) : List Addr := match o.data with
  | .dict es _ => es.toList.flatMap fun e => He.refV e.val
  | .func fd => He.refV fd.code ++ He.refV fd.defaults
  | .cls cd => cd.ns :: cd.mro.flatMap He.refV
  | _ => []
def goM (g : Addr → Option Obj) : Nat → List Addr → List Addr
  | 0, l => l
  | n + 1, l => l ++ goM g n (l.flatMap fun a => match g a with
    | some o => refsM o
    | none => [])
def asM (g : Addr → Option Obj) (n : Nat) : List Addr := goM g n [mainGlobals]
abbrev AlM : Type := He.AlD × Bool
def obsM (n : Nat) (fa : List He.Fa) (fn : List He.DefD) (ex : PySem.W.Frag → Bool) (g : Addr → Option Obj) : AlM := (fun K : PySem.W.Frag => (He.obsD fa fn K, ex K)) (He.frG g (asM g n))
def hookM (n : Nat) (fa : List He.Fa) (fn : List He.DefD) (ex : PySem.W.Frag → Bool) : PySem.W.Hook where
  α := AlM
  obs := fun s => obsM n fa fn ex s.heap.get?
  val := fun _ => (He.valD fn, true)
  says := fun _ h => ∃ K : PySem.W.Frag, K.In h ∧ He.SaysD fa fn K ∧ ex K = true
  of := fun _ _ e => ⟨_, He.frG_in, congrArg (fun z : AlM => z.1) e, congrArg (fun z : AlM => z.2) e⟩
  keeps := fun _ _ _ ⟨K, hK, c⟩ k => ⟨K, PySem.W.Frag.In.keeps hK k, c⟩
theorem obsM_eq {n : Nat} {fa : List He.Fa} {fn : List He.DefD} {ex : PySem.W.Frag → Bool} {g : Addr → Option Obj} {s : Shared} (h : ∀ a, g a = s.heap.get? a) : obsM n fa fn ex g = (hookM n fa fn ex).obs s := by
  have e : g = s.heap.get? := funext h
  rw [e] <;> rfl
/-! ### the lists -/
def d_is_text : He.DefD := ⟨("is_text", none), "is_text", "is_text", defArgs (top 5), defBody (top 5), defScope (top 5), [], []⟩
def d_without : He.DefD := ⟨("without", none), "without", "without", defArgs (top 6), defBody (top 6), defScope (top 6), [], []⟩
def d_is_whole : He.DefD := ⟨("is_whole", none), "is_whole", "is_whole", defArgs (top 7), defBody (top 7), defScope (top 7), [], []⟩
def d_is_number : He.DefD := ⟨("is_number", none), "is_number", "is_number", defArgs (top 15), defBody (top 15), defScope (top 15), [], []⟩
def d_unmarked : He.DefD := ⟨("unmarked", none), "unmarked", "unmarked", defArgs (top 25), defBody (top 25), defScope (top 25), [], []⟩
def d_way_of : He.DefD := ⟨("way_of", none), "way_of", "way_of", defArgs (top 26), defBody (top 26), defScope (top 26), [], []⟩
def d_united : He.DefD := ⟨("united", none), "united", "united", defArgs (top 28), defBody (top 28), defScope (top 28), [], []⟩
def d_loop_begins : He.DefD := ⟨("loop_begins", none), "loop_begins", "loop_begins", defArgs (top 29), defBody (top 29), defScope (top 29), [], []⟩
def d_node_begins : He.DefD := ⟨("node_begins", none), "node_begins", "node_begins", defArgs (top 30), defBody (top 30), defScope (top 30), [], []⟩
def d_begins : He.DefD := ⟨("begins", none), "begins", "begins", defArgs (top 31), defBody (top 31), defScope (top 31), [], []⟩
def d_side_begins : He.DefD := ⟨("side_begins", none), "side_begins", "side_begins", defArgs (top 34), defBody (top 34), defScope (top 34), [], []⟩
def d_follows : He.DefD := ⟨("follows", none), "follows", "follows", defArgs (top 35), defBody (top 35), defScope (top 35), [], []⟩
def d_again_begins : He.DefD := ⟨("again_begins", none), "again_begins", "again_begins", defArgs (top 36), defBody (top 36), defScope (top 36), [], []⟩
def d_within_loop : He.DefD := ⟨("within_loop", none), "within_loop", "within_loop", defArgs (top 37), defBody (top 37), defScope (top 37), [], []⟩
def d_have_common : He.DefD := ⟨("have_common", none), "have_common", "have_common", defArgs (top 38), defBody (top 38), defScope (top 38), [], []⟩
def d_unclear_loop : He.DefD := ⟨("unclear_loop", none), "unclear_loop", "unclear_loop", defArgs (top 39), defBody (top 39), defScope (top 39), [], []⟩
def d_unclear_choice : He.DefD := ⟨("unclear_choice", none), "unclear_choice", "unclear_choice", defArgs (top 40), defBody (top 40), defScope (top 40), [], []⟩
def d_unclear_node : He.DefD := ⟨("unclear_node", none), "unclear_node", "unclear_node", defArgs (top 41), defBody (top 41), defScope (top 41), [], []⟩
def d_unclear_nodes : He.DefD := ⟨("unclear_nodes", none), "unclear_nodes", "unclear_nodes", defArgs (top 42), defBody (top 42), defScope (top 42), [], []⟩
def d_unclear : He.DefD := ⟨("unclear", none), "unclear", "unclear", defArgs (top 43), defBody (top 43), defScope (top 43), [], []⟩
def d_side_readied : He.DefD := ⟨("side_readied", none), "side_readied", "side_readied", defArgs (top 45), defBody (top 45), defScope (top 45), [], []⟩
def d_node_readied : He.DefD := ⟨("node_readied", none), "node_readied", "node_readied", defArgs (top 46), defBody (top 46), defScope (top 46), [], []⟩
def d_readied : He.DefD := ⟨("readied", none), "readied", "readied", defArgs (top 47), defBody (top 47), defScope (top 47), [], []⟩
def d_text_read : He.DefD := ⟨("text_read", none), "text_read", "text_read", defArgs (top 48), defBody (top 48), defScope (top 48), [], []⟩
def d_loop_read : He.DefD := ⟨("loop_read", none), "loop_read", "loop_read", defArgs (top 49), defBody (top 49), defScope (top 49), [], []⟩
def d_choice_read : He.DefD := ⟨("choice_read", none), "choice_read", "choice_read", defArgs (top 50), defBody (top 50), defScope (top 50), [], []⟩
def d_node_read : He.DefD := ⟨("node_read", none), "node_read", "node_read", defArgs (top 51), defBody (top 51), defScope (top 51), [], []⟩
def d_nodes_read : He.DefD := ⟨("nodes_read", none), "nodes_read", "nodes_read", defArgs (top 52), defBody (top 52), defScope (top 52), [], []⟩
def d_read_back : He.DefD := ⟨("read_back", none), "read_back", "read_back", defArgs (top 53), defBody (top 53), defScope (top 53), [], []⟩
def d_node_spelt : He.DefD := ⟨("node_spelt", none), "node_spelt", "node_spelt", defArgs (top 55), defBody (top 55), defScope (top 55), [], []⟩
def d_spelt : He.DefD := ⟨("spelt", none), "spelt", "spelt", defArgs (top 56), defBody (top 56), defScope (top 56), [], []⟩
def d_l_cell_at : He.DefD := ⟨("_law_cell_at", none), "_law_cell_at", "_law_cell_at", defArgs (top 58), defBody (top 58), defScope (top 58), [], []⟩
def d_l_cell : He.DefD := ⟨("_law_cell", none), "_law_cell", "_law_cell", defArgs (top 59), defBody (top 59), defScope (top 59), [], []⟩
def d_l_marks : He.DefD := ⟨("_law_marks", none), "_law_marks", "_law_marks", defArgs (top 60), defBody (top 60), defScope (top 60), [], []⟩
def d_l_names : He.DefD := ⟨("_law_names", none), "_law_names", "_law_names", defArgs (top 61), defBody (top 61), defScope (top 61), [], []⟩
def d_l_text : He.DefD := ⟨("_law_text", none), "_law_text", "_law_text", defArgs (top 62), defBody (top 62), defScope (top 62), [], []⟩
def d_l_row : He.DefD := ⟨("_law_row", none), "_law_row", "_law_row", defArgs (top 63), defBody (top 63), defScope (top 63), [], []⟩
def d_l_scope : He.DefD := ⟨("_law_scope", none), "_law_scope", "_law_scope", defArgs (top 64), defBody (top 64), defScope (top 64), [], []⟩
def d_l_one : He.DefD := ⟨("_law_one", none), "_law_one", "_law_one", defArgs (top 65), defBody (top 65), defScope (top 65), [], []⟩
def d_l_way : He.DefD := ⟨("_law_way", none), "_law_way", "_law_way", defArgs (top 66), defBody (top 66), defScope (top 66), [], []⟩
def d_l_place : He.DefD := ⟨("_law_place", none), "_law_place", "_law_place", defArgs (top 67), defBody (top 67), defScope (top 67), [], []⟩
def d_l_loop : He.DefD := ⟨("_law_loop", none), "_law_loop", "_law_loop", defArgs (top 68), defBody (top 68), defScope (top 68), [], []⟩
def d_l_choice : He.DefD := ⟨("_law_choice", none), "_law_choice", "_law_choice", defArgs (top 69), defBody (top 69), defScope (top 69), [], []⟩
def d_l_nodes : He.DefD := ⟨("_law_nodes", none), "_law_nodes", "_law_nodes", defArgs (top 70), defBody (top 70), defScope (top 70), [], []⟩
def d_l_form : He.DefD := ⟨("_law_form", none), "_law_form", "_law_form", defArgs (top 71), defBody (top 71), defScope (top 71), [], []⟩
def d_l_figure : He.DefD := ⟨("_law_figure", none), "_law_figure", "_law_figure", defArgs (top 72), defBody (top 72), defScope (top 72), [], []⟩
def d_l_value : He.DefD := ⟨("_law_value", none), "_law_value", "_law_value", defArgs (top 73), defBody (top 73), defScope (top 73), [], []⟩
def d_l_same : He.DefD := ⟨("_law_same", none), "_law_same", "_law_same", defArgs (top 74), defBody (top 74), defScope (top 74), [], []⟩
def d_l_copied : He.DefD := ⟨("_law_copied", none), "_law_copied", "_law_copied", defArgs (top 75), defBody (top 75), defScope (top 75), [], []⟩
def d_l_coded : He.DefD := ⟨("_law_coded", none), "_law_coded", "_law_coded", defArgs (top 76), defBody (top 76), defScope (top 76), [], []⟩
def d_l_spoilt : He.DefD := ⟨("_law_spoilt", none), "_law_spoilt", "_law_spoilt", defArgs (top 77), defBody (top 77), defScope (top 77), [], []⟩
def d_l_fill : He.DefD := ⟨("_law_fill", none), "_law_fill", "_law_fill", defArgs (top 78), defBody (top 78), defScope (top 78), [], []⟩
def d_l_text_bent : He.DefD := ⟨("_law_text_bent", none), "_law_text_bent", "_law_text_bent", defArgs (top 79), defBody (top 79), defScope (top 79), [], []⟩
def d_l_sound : He.DefD := ⟨("_law_sound", none), "_law_sound", "_law_sound", defArgs (top 80), defBody (top 80), defScope (top 80), [], []⟩
def d_l_whole : He.DefD := ⟨("_law_whole", none), "_law_whole", "_law_whole", defArgs (top 81), defBody (top 81), defScope (top 81), [], []⟩
def d_l_long : He.DefD := ⟨("_law_long", none), "_law_long", "_law_long", defArgs (top 82), defBody (top 82), defScope (top 82), [], []⟩
def d_l_read : He.DefD := ⟨("_law_read", none), "_law_read", "_law_read", defArgs (top 83), defBody (top 83), defScope (top 83), [], []⟩
def d_law : He.DefD := ⟨("law", none), "law", "law", defArgs (top 84), defBody (top 84), defScope (top 84), [], []⟩
def d_Word_fits : He.DefD := ⟨("Word", some "fits"), "fits", "Word.fits", defArgs ((clsBody (top 20)).getD 0 (.Pass ⟨0, 0, 0, 0⟩)), defBody ((clsBody (top 20)).getD 0 (.Pass ⟨0, 0, 0, 0⟩)), defScope ((clsBody (top 20)).getD 0 (.Pass ⟨0, 0, 0, 0⟩)), [], []⟩
def d_Word_marked : He.DefD := ⟨("Word", some "marked"), "marked", "Way.marked", defArgs ((clsBody (top 19)).getD 1 (.Pass ⟨0, 0, 0, 0⟩)), defBody ((clsBody (top 19)).getD 1 (.Pass ⟨0, 0, 0, 0⟩)), defScope ((clsBody (top 19)).getD 1 (.Pass ⟨0, 0, 0, 0⟩)), [], []⟩
def d_Word_coded : He.DefD := ⟨("Word", some "coded"), "coded", "Way.coded", defArgs ((clsBody (top 19)).getD 2 (.Pass ⟨0, 0, 0, 0⟩)), defBody ((clsBody (top 19)).getD 2 (.Pass ⟨0, 0, 0, 0⟩)), defScope ((clsBody (top 19)).getD 2 (.Pass ⟨0, 0, 0, 0⟩)), [], []⟩
def d_Word_behind : He.DefD := ⟨("Word", some "behind"), "behind", "Way.behind", defArgs ((clsBody (top 19)).getD 3 (.Pass ⟨0, 0, 0, 0⟩)), defBody ((clsBody (top 19)).getD 3 (.Pass ⟨0, 0, 0, 0⟩)), defScope ((clsBody (top 19)).getD 3 (.Pass ⟨0, 0, 0, 0⟩)), [], []⟩
def d_Word_meant : He.DefD := ⟨("Word", some "meant"), "meant", "Way.meant", defArgs ((clsBody (top 19)).getD 4 (.Pass ⟨0, 0, 0, 0⟩)), defBody ((clsBody (top 19)).getD 4 (.Pass ⟨0, 0, 0, 0⟩)), defScope ((clsBody (top 19)).getD 4 (.Pass ⟨0, 0, 0, 0⟩)), [], []⟩
def d_Word_read : He.DefD := ⟨("Word", some "read"), "read", "Way.read", defArgs ((clsBody (top 19)).getD 5 (.Pass ⟨0, 0, 0, 0⟩)), defBody ((clsBody (top 19)).getD 5 (.Pass ⟨0, 0, 0, 0⟩)), defScope ((clsBody (top 19)).getD 5 (.Pass ⟨0, 0, 0, 0⟩)), [], []⟩
def d_Word_begins : He.DefD := ⟨("Word", some "begins"), "begins", "Way.begins", defArgs ((clsBody (top 19)).getD 6 (.Pass ⟨0, 0, 0, 0⟩)), defBody ((clsBody (top 19)).getD 6 (.Pass ⟨0, 0, 0, 0⟩)), defScope ((clsBody (top 19)).getD 6 (.Pass ⟨0, 0, 0, 0⟩)), [], []⟩
def d_Word_ends : He.DefD := ⟨("Word", some "ends"), "ends", "Word.ends", defArgs ((clsBody (top 20)).getD 1 (.Pass ⟨0, 0, 0, 0⟩)), defBody ((clsBody (top 20)).getD 1 (.Pass ⟨0, 0, 0, 0⟩)), defScope ((clsBody (top 20)).getD 1 (.Pass ⟨0, 0, 0, 0⟩)), [], []⟩
def d_Word_is_void : He.DefD := ⟨("Word", some "is_void"), "is_void", "Way.is_void", defArgs ((clsBody (top 19)).getD 8 (.Pass ⟨0, 0, 0, 0⟩)), defBody ((clsBody (top 19)).getD 8 (.Pass ⟨0, 0, 0, 0⟩)), defScope ((clsBody (top 19)).getD 8 (.Pass ⟨0, 0, 0, 0⟩)), [], []⟩
def d_Number_fits : He.DefD := ⟨("Number", some "fits"), "fits", "Number.fits", defArgs ((clsBody (top 21)).getD 0 (.Pass ⟨0, 0, 0, 0⟩)), defBody ((clsBody (top 21)).getD 0 (.Pass ⟨0, 0, 0, 0⟩)), defScope ((clsBody (top 21)).getD 0 (.Pass ⟨0, 0, 0, 0⟩)), [], []⟩
def d_Number_marked : He.DefD := ⟨("Number", some "marked"), "marked", "Number.marked", defArgs ((clsBody (top 21)).getD 1 (.Pass ⟨0, 0, 0, 0⟩)), defBody ((clsBody (top 21)).getD 1 (.Pass ⟨0, 0, 0, 0⟩)), defScope ((clsBody (top 21)).getD 1 (.Pass ⟨0, 0, 0, 0⟩)), [], []⟩
def d_Number_coded : He.DefD := ⟨("Number", some "coded"), "coded", "Way.coded", defArgs ((clsBody (top 19)).getD 2 (.Pass ⟨0, 0, 0, 0⟩)), defBody ((clsBody (top 19)).getD 2 (.Pass ⟨0, 0, 0, 0⟩)), defScope ((clsBody (top 19)).getD 2 (.Pass ⟨0, 0, 0, 0⟩)), [], []⟩
def d_Number_behind : He.DefD := ⟨("Number", some "behind"), "behind", "Number.behind", defArgs ((clsBody (top 21)).getD 2 (.Pass ⟨0, 0, 0, 0⟩)), defBody ((clsBody (top 21)).getD 2 (.Pass ⟨0, 0, 0, 0⟩)), defScope ((clsBody (top 21)).getD 2 (.Pass ⟨0, 0, 0, 0⟩)), [], []⟩
def d_Number_meant : He.DefD := ⟨("Number", some "meant"), "meant", "Number.meant", defArgs ((clsBody (top 21)).getD 3 (.Pass ⟨0, 0, 0, 0⟩)), defBody ((clsBody (top 21)).getD 3 (.Pass ⟨0, 0, 0, 0⟩)), defScope ((clsBody (top 21)).getD 3 (.Pass ⟨0, 0, 0, 0⟩)), [], []⟩
def d_Number_read : He.DefD := ⟨("Number", some "read"), "read", "Way.read", defArgs ((clsBody (top 19)).getD 5 (.Pass ⟨0, 0, 0, 0⟩)), defBody ((clsBody (top 19)).getD 5 (.Pass ⟨0, 0, 0, 0⟩)), defScope ((clsBody (top 19)).getD 5 (.Pass ⟨0, 0, 0, 0⟩)), [], []⟩
def d_Number_begins : He.DefD := ⟨("Number", some "begins"), "begins", "Number.begins", defArgs ((clsBody (top 21)).getD 4 (.Pass ⟨0, 0, 0, 0⟩)), defBody ((clsBody (top 21)).getD 4 (.Pass ⟨0, 0, 0, 0⟩)), defScope ((clsBody (top 21)).getD 4 (.Pass ⟨0, 0, 0, 0⟩)), [], []⟩
def d_Number_ends : He.DefD := ⟨("Number", some "ends"), "ends", "Number.ends", defArgs ((clsBody (top 21)).getD 5 (.Pass ⟨0, 0, 0, 0⟩)), defBody ((clsBody (top 21)).getD 5 (.Pass ⟨0, 0, 0, 0⟩)), defScope ((clsBody (top 21)).getD 5 (.Pass ⟨0, 0, 0, 0⟩)), [], []⟩
def d_Number_is_void : He.DefD := ⟨("Number", some "is_void"), "is_void", "Way.is_void", defArgs ((clsBody (top 19)).getD 8 (.Pass ⟨0, 0, 0, 0⟩)), defBody ((clsBody (top 19)).getD 8 (.Pass ⟨0, 0, 0, 0⟩)), defScope ((clsBody (top 19)).getD 8 (.Pass ⟨0, 0, 0, 0⟩)), [], []⟩
def d_Quoted_fits : He.DefD := ⟨("Quoted", some "fits"), "fits", "Way.fits", defArgs ((clsBody (top 19)).getD 0 (.Pass ⟨0, 0, 0, 0⟩)), defBody ((clsBody (top 19)).getD 0 (.Pass ⟨0, 0, 0, 0⟩)), defScope ((clsBody (top 19)).getD 0 (.Pass ⟨0, 0, 0, 0⟩)), [], []⟩
def d_Quoted_marked : He.DefD := ⟨("Quoted", some "marked"), "marked", "Quoted.marked", defArgs ((clsBody (top 22)).getD 0 (.Pass ⟨0, 0, 0, 0⟩)), defBody ((clsBody (top 22)).getD 0 (.Pass ⟨0, 0, 0, 0⟩)), defScope ((clsBody (top 22)).getD 0 (.Pass ⟨0, 0, 0, 0⟩)), [], []⟩
def d_Quoted_coded : He.DefD := ⟨("Quoted", some "coded"), "coded", "Way.coded", defArgs ((clsBody (top 19)).getD 2 (.Pass ⟨0, 0, 0, 0⟩)), defBody ((clsBody (top 19)).getD 2 (.Pass ⟨0, 0, 0, 0⟩)), defScope ((clsBody (top 19)).getD 2 (.Pass ⟨0, 0, 0, 0⟩)), [], []⟩
def d_Quoted_behind : He.DefD := ⟨("Quoted", some "behind"), "behind", "Quoted.behind", defArgs ((clsBody (top 22)).getD 1 (.Pass ⟨0, 0, 0, 0⟩)), defBody ((clsBody (top 22)).getD 1 (.Pass ⟨0, 0, 0, 0⟩)), defScope ((clsBody (top 22)).getD 1 (.Pass ⟨0, 0, 0, 0⟩)), [], []⟩
def d_Quoted_meant : He.DefD := ⟨("Quoted", some "meant"), "meant", "Quoted.meant", defArgs ((clsBody (top 22)).getD 2 (.Pass ⟨0, 0, 0, 0⟩)), defBody ((clsBody (top 22)).getD 2 (.Pass ⟨0, 0, 0, 0⟩)), defScope ((clsBody (top 22)).getD 2 (.Pass ⟨0, 0, 0, 0⟩)), [], []⟩
def d_Quoted_read : He.DefD := ⟨("Quoted", some "read"), "read", "Way.read", defArgs ((clsBody (top 19)).getD 5 (.Pass ⟨0, 0, 0, 0⟩)), defBody ((clsBody (top 19)).getD 5 (.Pass ⟨0, 0, 0, 0⟩)), defScope ((clsBody (top 19)).getD 5 (.Pass ⟨0, 0, 0, 0⟩)), [], []⟩
def d_Quoted_begins : He.DefD := ⟨("Quoted", some "begins"), "begins", "Quoted.begins", defArgs ((clsBody (top 22)).getD 3 (.Pass ⟨0, 0, 0, 0⟩)), defBody ((clsBody (top 22)).getD 3 (.Pass ⟨0, 0, 0, 0⟩)), defScope ((clsBody (top 22)).getD 3 (.Pass ⟨0, 0, 0, 0⟩)), [], []⟩
def d_Quoted_ends : He.DefD := ⟨("Quoted", some "ends"), "ends", "Quoted.ends", defArgs ((clsBody (top 22)).getD 4 (.Pass ⟨0, 0, 0, 0⟩)), defBody ((clsBody (top 22)).getD 4 (.Pass ⟨0, 0, 0, 0⟩)), defScope ((clsBody (top 22)).getD 4 (.Pass ⟨0, 0, 0, 0⟩)), [], []⟩
def d_Quoted_is_void : He.DefD := ⟨("Quoted", some "is_void"), "is_void", "Way.is_void", defArgs ((clsBody (top 19)).getD 8 (.Pass ⟨0, 0, 0, 0⟩)), defBody ((clsBody (top 19)).getD 8 (.Pass ⟨0, 0, 0, 0⟩)), defScope ((clsBody (top 19)).getD 8 (.Pass ⟨0, 0, 0, 0⟩)), [], []⟩
def d_Plain_fits : He.DefD := ⟨("Plain", some "fits"), "fits", "Way.fits", defArgs ((clsBody (top 19)).getD 0 (.Pass ⟨0, 0, 0, 0⟩)), defBody ((clsBody (top 19)).getD 0 (.Pass ⟨0, 0, 0, 0⟩)), defScope ((clsBody (top 19)).getD 0 (.Pass ⟨0, 0, 0, 0⟩)), [], []⟩
def d_Plain_marked : He.DefD := ⟨("Plain", some "marked"), "marked", "Plain.marked", defArgs ((clsBody (top 23)).getD 0 (.Pass ⟨0, 0, 0, 0⟩)), defBody ((clsBody (top 23)).getD 0 (.Pass ⟨0, 0, 0, 0⟩)), defScope ((clsBody (top 23)).getD 0 (.Pass ⟨0, 0, 0, 0⟩)), [], []⟩
def d_Plain_coded : He.DefD := ⟨("Plain", some "coded"), "coded", "Way.coded", defArgs ((clsBody (top 19)).getD 2 (.Pass ⟨0, 0, 0, 0⟩)), defBody ((clsBody (top 19)).getD 2 (.Pass ⟨0, 0, 0, 0⟩)), defScope ((clsBody (top 19)).getD 2 (.Pass ⟨0, 0, 0, 0⟩)), [], []⟩
def d_Plain_behind : He.DefD := ⟨("Plain", some "behind"), "behind", "Way.behind", defArgs ((clsBody (top 19)).getD 3 (.Pass ⟨0, 0, 0, 0⟩)), defBody ((clsBody (top 19)).getD 3 (.Pass ⟨0, 0, 0, 0⟩)), defScope ((clsBody (top 19)).getD 3 (.Pass ⟨0, 0, 0, 0⟩)), [], []⟩
def d_Plain_meant : He.DefD := ⟨("Plain", some "meant"), "meant", "Plain.meant", defArgs ((clsBody (top 23)).getD 1 (.Pass ⟨0, 0, 0, 0⟩)), defBody ((clsBody (top 23)).getD 1 (.Pass ⟨0, 0, 0, 0⟩)), defScope ((clsBody (top 23)).getD 1 (.Pass ⟨0, 0, 0, 0⟩)), [], []⟩
def d_Plain_read : He.DefD := ⟨("Plain", some "read"), "read", "Way.read", defArgs ((clsBody (top 19)).getD 5 (.Pass ⟨0, 0, 0, 0⟩)), defBody ((clsBody (top 19)).getD 5 (.Pass ⟨0, 0, 0, 0⟩)), defScope ((clsBody (top 19)).getD 5 (.Pass ⟨0, 0, 0, 0⟩)), [], []⟩
def d_Plain_begins : He.DefD := ⟨("Plain", some "begins"), "begins", "Way.begins", defArgs ((clsBody (top 19)).getD 6 (.Pass ⟨0, 0, 0, 0⟩)), defBody ((clsBody (top 19)).getD 6 (.Pass ⟨0, 0, 0, 0⟩)), defScope ((clsBody (top 19)).getD 6 (.Pass ⟨0, 0, 0, 0⟩)), [], []⟩
def d_Plain_ends : He.DefD := ⟨("Plain", some "ends"), "ends", "Plain.ends", defArgs ((clsBody (top 23)).getD 2 (.Pass ⟨0, 0, 0, 0⟩)), defBody ((clsBody (top 23)).getD 2 (.Pass ⟨0, 0, 0, 0⟩)), defScope ((clsBody (top 23)).getD 2 (.Pass ⟨0, 0, 0, 0⟩)), [], []⟩
def d_Plain_is_void : He.DefD := ⟨("Plain", some "is_void"), "is_void", "Plain.is_void", defArgs ((clsBody (top 23)).getD 3 (.Pass ⟨0, 0, 0, 0⟩)), defBody ((clsBody (top 23)).getD 3 (.Pass ⟨0, 0, 0, 0⟩)), defScope ((clsBody (top 23)).getD 3 (.Pass ⟨0, 0, 0, 0⟩)), [], []⟩
def d_Line_fits : He.DefD := ⟨("Line", some "fits"), "fits", "Way.fits", defArgs ((clsBody (top 19)).getD 0 (.Pass ⟨0, 0, 0, 0⟩)), defBody ((clsBody (top 19)).getD 0 (.Pass ⟨0, 0, 0, 0⟩)), defScope ((clsBody (top 19)).getD 0 (.Pass ⟨0, 0, 0, 0⟩)), [], []⟩
def d_Line_marked : He.DefD := ⟨("Line", some "marked"), "marked", "Line.marked", defArgs ((clsBody (top 24)).getD 0 (.Pass ⟨0, 0, 0, 0⟩)), defBody ((clsBody (top 24)).getD 0 (.Pass ⟨0, 0, 0, 0⟩)), defScope ((clsBody (top 24)).getD 0 (.Pass ⟨0, 0, 0, 0⟩)), [], []⟩
def d_Line_coded : He.DefD := ⟨("Line", some "coded"), "coded", "Way.coded", defArgs ((clsBody (top 19)).getD 2 (.Pass ⟨0, 0, 0, 0⟩)), defBody ((clsBody (top 19)).getD 2 (.Pass ⟨0, 0, 0, 0⟩)), defScope ((clsBody (top 19)).getD 2 (.Pass ⟨0, 0, 0, 0⟩)), [], []⟩
def d_Line_behind : He.DefD := ⟨("Line", some "behind"), "behind", "Way.behind", defArgs ((clsBody (top 19)).getD 3 (.Pass ⟨0, 0, 0, 0⟩)), defBody ((clsBody (top 19)).getD 3 (.Pass ⟨0, 0, 0, 0⟩)), defScope ((clsBody (top 19)).getD 3 (.Pass ⟨0, 0, 0, 0⟩)), [], []⟩
def d_Line_meant : He.DefD := ⟨("Line", some "meant"), "meant", "Line.meant", defArgs ((clsBody (top 24)).getD 1 (.Pass ⟨0, 0, 0, 0⟩)), defBody ((clsBody (top 24)).getD 1 (.Pass ⟨0, 0, 0, 0⟩)), defScope ((clsBody (top 24)).getD 1 (.Pass ⟨0, 0, 0, 0⟩)), [], []⟩
def d_Line_read : He.DefD := ⟨("Line", some "read"), "read", "Way.read", defArgs ((clsBody (top 19)).getD 5 (.Pass ⟨0, 0, 0, 0⟩)), defBody ((clsBody (top 19)).getD 5 (.Pass ⟨0, 0, 0, 0⟩)), defScope ((clsBody (top 19)).getD 5 (.Pass ⟨0, 0, 0, 0⟩)), [], []⟩
def d_Line_begins : He.DefD := ⟨("Line", some "begins"), "begins", "Way.begins", defArgs ((clsBody (top 19)).getD 6 (.Pass ⟨0, 0, 0, 0⟩)), defBody ((clsBody (top 19)).getD 6 (.Pass ⟨0, 0, 0, 0⟩)), defScope ((clsBody (top 19)).getD 6 (.Pass ⟨0, 0, 0, 0⟩)), [], []⟩
def d_Line_ends : He.DefD := ⟨("Line", some "ends"), "ends", "Line.ends", defArgs ((clsBody (top 24)).getD 2 (.Pass ⟨0, 0, 0, 0⟩)), defBody ((clsBody (top 24)).getD 2 (.Pass ⟨0, 0, 0, 0⟩)), defScope ((clsBody (top 24)).getD 2 (.Pass ⟨0, 0, 0, 0⟩)), [], []⟩
def d_Line_is_void : He.DefD := ⟨("Line", some "is_void"), "is_void", "Line.is_void", defArgs ((clsBody (top 24)).getD 3 (.Pass ⟨0, 0, 0, 0⟩)), defBody ((clsBody (top 24)).getD 3 (.Pass ⟨0, 0, 0, 0⟩)), defScope ((clsBody (top 24)).getD 3 (.Pass ⟨0, 0, 0, 0⟩)), [], []⟩
def d_NoFill___init__ : He.DefD := ⟨("NoFill", some "__init__"), "__init__", "NoFill.__init__", defArgs ((clsBody (top 12)).getD 0 (.Pass ⟨0, 0, 0, 0⟩)), defBody ((clsBody (top 12)).getD 0 (.Pass ⟨0, 0, 0, 0⟩)), defScope ((clsBody (top 12)).getD 0 (.Pass ⟨0, 0, 0, 0⟩)), [], []⟩
def fnP0 : List He.DefD := [d_is_text, d_without, d_is_whole, d_is_number, d_unmarked, d_way_of, d_united, d_loop_begins, d_node_begins, d_begins, d_side_begins, d_follows, d_again_begins, d_within_loop, d_have_common, d_unclear_loop, d_unclear_choice, d_unclear_node, d_unclear_nodes, d_unclear]
def fnP1 : List He.DefD := [d_side_readied, d_node_readied, d_readied, d_text_read, d_loop_read, d_choice_read, d_node_read, d_nodes_read, d_read_back, d_node_spelt, d_spelt, d_l_cell_at, d_l_cell, d_l_marks, d_l_names, d_l_text, d_l_row, d_l_scope, d_l_one, d_l_way]
def fnP2 : List He.DefD := [d_l_place, d_l_loop, d_l_choice, d_l_nodes, d_l_form, d_l_figure, d_l_value, d_l_same, d_l_copied, d_l_coded, d_l_spoilt, d_l_fill, d_l_text_bent, d_l_sound, d_l_whole, d_l_long, d_l_read, d_law, d_Word_fits, d_Word_marked]
def fnP3 : List He.DefD := [d_Word_coded, d_Word_behind, d_Word_meant, d_Word_read, d_Word_begins, d_Word_ends, d_Word_is_void, d_Number_fits, d_Number_marked, d_Number_coded, d_Number_behind, d_Number_meant, d_Number_read, d_Number_begins, d_Number_ends, d_Number_is_void, d_Quoted_fits, d_Quoted_marked, d_Quoted_coded, d_Quoted_behind]
def fnP4 : List He.DefD := [d_Quoted_meant, d_Quoted_read, d_Quoted_begins, d_Quoted_ends, d_Quoted_is_void, d_Plain_fits, d_Plain_marked, d_Plain_coded, d_Plain_behind, d_Plain_meant, d_Plain_read, d_Plain_begins, d_Plain_ends, d_Plain_is_void, d_Line_fits, d_Line_marked, d_Line_coded, d_Line_behind, d_Line_meant, d_Line_read]
def fnP5 : List He.DefD := [d_Line_begins, d_Line_ends, d_Line_is_void, d_NoFill___init__]
def fn : List He.DefD := fnP0 ++ (fnP1 ++ (fnP2 ++ (fnP3 ++ (fnP4 ++ (fnP5)))))
def faP0 : List He.Fa := [.glo "is_text", .glo "without", .glo "is_whole", .glo "is_number", .glo "unmarked", .glo "way_of", .glo "united", .glo "loop_begins", .glo "node_begins", .glo "begins", .glo "side_begins", .glo "follows", .glo "again_begins", .glo "within_loop", .glo "have_common", .glo "unclear_loop", .glo "unclear_choice", .glo "unclear_node", .glo "unclear_nodes", .glo "unclear"]
def faP1 : List He.Fa := [.glo "side_readied", .glo "node_readied", .glo "readied", .glo "text_read", .glo "loop_read", .glo "choice_read", .glo "node_read", .glo "nodes_read", .glo "read_back", .glo "node_spelt", .glo "spelt", .glo "_law_cell_at", .glo "_law_cell", .glo "_law_marks", .glo "_law_names", .glo "_law_text", .glo "_law_row", .glo "_law_scope", .glo "_law_one", .glo "_law_way"]
def faP2 : List He.Fa := [.glo "_law_place", .glo "_law_loop", .glo "_law_choice", .glo "_law_nodes", .glo "_law_form", .glo "_law_figure", .glo "_law_value", .glo "_law_same", .glo "_law_copied", .glo "_law_coded", .glo "_law_spoilt", .glo "_law_fill", .glo "_law_text_bent", .glo "_law_sound", .glo "_law_whole", .glo "_law_long", .glo "_law_read", .glo "law", .glo "Word", .glo "Number"]
def faP3 : List He.Fa := [.glo "Quoted", .glo "Plain", .glo "Line", .glo "NoFill", .glo "AT_END", .free "len", .free "all", .free "any", .free "isinstance", .free "int", .free "str", .free "tuple", .free "range", .free "enumerate", .free "zip", .free "abs", .free "max", .free "bool", .free "list", .free "dict"]
def faP4 : List He.Fa := [.str "LETTERS" "abcdefghijklmnopqrstuvwxyz", .str "GREAT" "ABCDEFGHIJKLMNOPQRSTUVWXYZ", .str "FIGURES" "0123456789", .str "SIGNS" "\n !\"#$&'()*+,-./0123456789:;<=>?@ABCDEFGHIJKLMNOPQRSTUVWXYZ[\\]^_`abcdefghijklmnopqrstuvwxyz{|}~", .str "PLAIN_ENDS" "\n&<>|", .int "MOST_SIGNS" 400, .int "MOST_LETTERS" 40, .cls "Word", .cls "Number", .cls "Quoted", .cls "Plain", .cls "Line", .meth "Word" "fits", .meth "Word" "marked", .meth "Word" "coded", .meth "Word" "behind", .meth "Word" "meant", .meth "Word" "read", .meth "Word" "begins", .meth "Word" "ends"]
def faP5 : List He.Fa := [.meth "Word" "is_void", .meth "Number" "fits", .meth "Number" "marked", .meth "Number" "coded", .meth "Number" "behind", .meth "Number" "meant", .meth "Number" "read", .meth "Number" "begins", .meth "Number" "ends", .meth "Number" "is_void", .meth "Quoted" "fits", .meth "Quoted" "marked", .meth "Quoted" "coded", .meth "Quoted" "behind", .meth "Quoted" "meant", .meth "Quoted" "read", .meth "Quoted" "begins", .meth "Quoted" "ends", .meth "Quoted" "is_void", .meth "Plain" "fits"]
def faP6 : List He.Fa := [.meth "Plain" "marked", .meth "Plain" "coded", .meth "Plain" "behind", .meth "Plain" "meant", .meth "Plain" "read", .meth "Plain" "begins", .meth "Plain" "ends", .meth "Plain" "is_void", .meth "Line" "fits", .meth "Line" "marked", .meth "Line" "coded", .meth "Line" "behind", .meth "Line" "meant", .meth "Line" "read", .meth "Line" "begins", .meth "Line" "ends", .meth "Line" "is_void", .meth "NoFill" "__init__", .exm "NoFill" "NoFill" true, .noat "NoFill" "at"]
def fa : List He.Fa := faP0 ++ (faP1 ++ (faP2 ++ (faP3 ++ (faP4 ++ (faP5 ++ (faP6))))))
def names0 : List Str := ["LETTERS", "GREAT", "FIGURES", "SIGNS", "is_text", "without", "is_whole", "FormError", "BadWay", "BadValue", "NoFill", "MOST_SIGNS", "is_number", "MOST_LETTERS", "PLAIN_ENDS", "Way", "Word", "Number", "Quoted", "Plain", "Line", "unmarked", "way_of", "united", "loop_begins"]
def names1 : List Str := ["node_begins", "begins", "AT_END", "side_begins", "follows", "again_begins", "within_loop", "have_common", "unclear_loop", "unclear_choice", "unclear_node", "unclear_nodes", "unclear", "side_readied", "node_readied", "readied", "text_read", "loop_read", "choice_read", "node_read", "nodes_read", "read_back", "node_spelt", "spelt", "_law_cell_at"]
def names2 : List Str := ["_law_cell", "_law_marks", "_law_names", "_law_text", "_law_row", "_law_scope", "_law_one", "_law_way", "_law_place", "_law_loop", "_law_choice", "_law_nodes", "_law_form", "_law_figure", "_law_value", "_law_same", "_law_copied", "_law_coded", "_law_spoilt", "_law_fill", "_law_text_bent", "_law_sound", "_law_whole", "_law_long", "_law_read"]
def names : List Str := names0 ++ (names1 ++ (names2))
abbrev R : PySem.W.OpenRow := PySem.W.OpenLaw.row PySem.Challenge.rw_formsmith_k16_whole_there_and_back
abbrev hk : PySem.W.Hook := hookM 4 fa fn exB
def ob (s : PySem.W.SharedT) : AlM := obsM 4 fa fn exB (HandSHeadRun.getT s)
theorem ob_eq (s : PySem.W.SharedT) : ob s = hk.obs s.abs := obsM_eq (HandSHeadRun.getT_eq s)
set_option maxHeartbeats 0 in
theorem run (w : World) : HandSHeadRun.RunEq R (PySem.W.view R.prog [84]) hk ob 12000 names w := by
  intro os
  kernel_rfl
end K16
end

section
set_option maxHeartbeats 4000000
/-! RL3: text[::2]; a def whose body gives out a token. -/
namespace K16
open PySem PySem.Spec PyProof.Rows L2
def evens (z : PySem.Str) : PySem.Str := ⟨((Builtin.Str.strSliceIndices none none 2 z.length).filterMap (z.cps[·]?)).toArray⟩
def tEven (te : TE) : TE := fun σ H Q => te σ H fun x H1 => ∃ z, x = .str z ∧ z.length ≤ sizeLine ∧ (evens z).length ≤ sizeLine ∧ Q (.str (evens z)) H1
section
variable {X : Cx} {e : Expr} {te : TE}
theorem pe_even {k : Nat} {p1 p3 pos : Pos} (he : PE X e te) : PE X (.Subscript e (.Slice none none (some (.Constant (.int 2) k p1)) p3) pos) (tEven te) := by
  refine ⟨fun pins s σ H Q I h => ?_⟩
  refine Subscript_ (thn (he.run pins s σ H _ I h) fun v s1 ⟨x, H1, I1, r1, q1⟩ => ?_)
  obtain ⟨z, ex, hz, hz2, q⟩ := q1
  subst ex
  obtain ⟨t, rfl⟩ := r1
  have hst : PO X (some (.Constant (.int 2) k p1)) (tPart (tC (.int 2))) := po_some pe_int
  refine wpAny_Slice (thn (po_none.run pins s1 σ H1 (fun o H2 => o = none ∧ H2 = H1) I1 ⟨rfl, rfl⟩) fun vl s2 ⟨l, H2, I2, pl, el, e2⟩ => ?_)
  subst el e2
  refine thn (po_none.run pins s2 σ H2 (fun o H3 => o = none ∧ H3 = H2) I2 ⟨rfl, rfl⟩) fun vu s3 ⟨u, H3, I3, pu, eu, e3⟩ => ?_
  subst eu e3
  refine thn (hst.run pins s3 σ H3 (fun o H4 => o = some 2 ∧ H4 = H3) I3 ⟨2, rfl, rfl, rfl⟩) fun vs s4 ⟨o, H4, I4, ps, eo, e4⟩ => ?_
  subst eo e4
  have I5 : Inv X pins σ H4 { s4 with heap := s4.heap.push { cls := .type "slice", data := .fields #[vl, vu, vs] } } := I4.kept (t' := s4.toks) fun b ob q => Heap.get?_push_of_some _ q
  show wpAny (model X.prog X.w) X.A (subscriptTail e (.Slice none none (some (.Constant (.int 2) k p1)) p3) (.str z t) (.ref s4.heap.objs.size)) (EP X pins σ Q) X.xe { s4 with heap := s4.heap.push { cls := .type "slice", data := .fields #[vl, vu, vs] } }
  obtain ⟨l, rfl, hl⟩ := IsPart.raw pl
  obtain ⟨u, rfl, hu⟩ := IsPart.raw pu
  obtain ⟨st, rfl, hs⟩ := IsPart.raw ps
  refine tail_any (ops := [.str z t, .ref s4.heap.objs.size]) (typeIs_str _ _ _) (F.slot_str_getitem.lookup) ?_ (by with_unfolding_all rfl)
  cases l with
  | some a => cases hl
  | none =>
  cases u with
  | some a => cases hu
  | none =>
  cases st with
  | none => cases hs
  | some st =>
  obtain ⟨i, ti⟩ := st
  have hi : i = 2 := by
    have : some i = some (2 : Int) := by first | exact hs | exact hs.symm
    exact Option.some.inj this
  subst hi
  refine wpAny_getItem_str_slice (l := none) (u := none) (st := some (2, ti)) ⟨_, Heap.get?_push_size _ rfl, rfl, rfl⟩ rfl ?_
  show Made.post (if ((2 : Int) == 1 && (Builtin.Str.strSliceIndices none none 2 z.length).length == z.length) = true then Made.val (.str z t)
    else Made.str (evens z)) (EP X pins σ Q) _
  rw [if_neg (by simp)]
  exact ⟨hz2, .str _, _, I5.tok _, ⟨_, rfl⟩, q⟩
end
theorem pst_set {X : Cx} {i : Nat} {x : PySem.Str} {e : Expr} {te : TE} {pos pos' : Pos} (hN : X.N.Nodup) (hi : X.N[i]? = some x) (hx : Loc X.env.scope x) (he : PET X e te) (hs : swapsWith e (some (.Name x pos')) pos.line X.env = pure false := by rfl) (hf : X.fn x = true ∨ X.env.scope.names.lookup x = some .local := by first | exact .inl rfl | exact .inr rfl | assumption) :
    PST X (.Assign [.Name x pos'] e pos) (tAsg te (gName i)) := by
  intro pins s σ H D h0 I h
  refine wpAny_Assign_Name (thn (he pins s σ H _ h0 I h) fun v s1 ⟨y, H1, I1, r1, q1⟩ => ?_) hs
  exact store_ok I1 hN hi hx r1 (fun s2 I2 => ⟨_, H1, I2, q1⟩) hf
theorem FunD.okT {P : Program} {w : World} {K : PySem.W.Frag} {mg : PySem.Str → Option Value} {base : Heap} {x qual : PySem.Str} {params : Arguments} {body : List Stmt} {scope : Scope} {dvs : List V} {kws : List (PySem.Str × V)} {f : Addr} {fd : FuncData}
    {CX : CXT} {N ps : List PySem.Str} {k : Nat} {sp : Sp} (F : FunD K x qual params body scope dvs kws f fd) (S : FnScope N ps scope) (hnc : ∀ y ∈ scope.names, y.2 ≠ .cell) (hps : 1 ≤ ps.length) (len : ∀ vs H Q E, sp vs H Q E → vs.length = ps.length)
    (hbody : ∀ (cdv : Value) (A : Around) (outer : List Env) (s : Shared) (H : Hp) (vs : List V) (Q : VK) (E : XK), Room k (A.deeper (envOfC qual scope s.heap.objs.size f cdv)) → sp vs H Q E →
      ∃ t, PSsT (cxOf CX P w K mg base N qual scope f cdv A outer s H E) body t ∧ t { nx := fun _ H' => Q .non H', rt := Q } (L2.start N vs) H) : FnOk P w K mg base CX (k + 1) f fd ps sp := by
  obtain ⟨oc, od, dV, kV, doc, pm, an, cdv, ct, osl, rfl, lk, hcd, _, _⟩ := F.ex
  exact fn_ofT lk hcd S hnc hps len fun A outer s H vs Q E hr hsp => hbody cdv A outer s H vs Q E hr hsp
end K16
end

section
set_option maxHeartbeats 4000000
set_option autoImplicit false
/-! CT: promises with a parameter, calls of them; the facts of the written part; how forms and fills stand as data. -/
namespace K16
open PySem PySem.Spec PyProof.Rows L2 SX
structure CtA (α : Type) where
  args : α → List D
  pre : α → Prop := fun _ => True
  post : α → D → Prop
  bad : α → Int → Prop := fun _ _ => False
abbrev CtA.at {α : Type} (c : CtA α) (a : α) : Ct := ⟨fun ds => ds = c.args a ∧ c.pre a, fun _ d => c.post a d, fun _ n => c.bad a n⟩
def spA {α : Type} (K : PySem.W.Frag) (wc : Way → Addr) (nf : Addr) (c : CtA α) : Sp := fun vs H Q E => ∃ a, spP K wc nf (c.at a) vs H Q E
structure CtB (α : Type) where
  args : Addr → α → List D
  pre : α → Int → Prop := fun _ _ => True
  post : α → Int → D → Int → Prop
abbrev CtB.at {α : Type} (c : CtB α) (a : α) : CtS := ⟨fun s ds k => ds = c.args s a ∧ c.pre a k, fun _ _ k d k' => c.post a k d k'⟩
def spB {α : Type} (K : PySem.W.Frag) (wc : Way → Addr) (c : CtB α) : Sp := fun vs H Q E => ∃ a, spS K wc (c.at a) vs H Q E
section
variable {α : Type} {p : Pr} {δ : DSt} {te ta tb tc : TE} {tt tu : TT} {t u : TS} {Φ : D → DSt → Prop} {Ψ : DEn} {tl : TA}
theorem wE_fn {E : XK} {c : CtA α} (h : wA p tl δ fun ds δ1 => ∃ a, c.pre a ∧ ds = c.args a ∧ (∀ d, c.post a d → Φ d δ1) ∧ ∀ n, ¬ c.bad a n) : wE p (tCall (spA p.K p.wc p.nf c) [] E tl) δ Φ := fun G O σ H A Q f => by
  refine h G O σ H A _ fun ds k1 vs H1 h1 k A1 r1 => ?_
  rw [List.append_nil]
  obtain ⟨a, pa, e, ps, nb⟩ := h1
  exact ⟨a, Pc G O δ.sl, ds, fun a ha => A1.free ha, r1, ⟨e, pa⟩, fun d v H' q s r2 => f d k1 v H' (ps d q) (k.trans (.same s)) (A1.same s) r2, fun n dd H' q => absurd q (nb n)⟩
theorem wE_fnX {c : CtA α} (h : wA p tl δ fun ds δ1 => ∃ a, c.pre a ∧ ds = c.args a ∧ (∀ d, c.post a d → Φ d δ1) ∧ ∀ n, c.bad a n → p.B n) : wE p (tCall (spA p.K p.wc p.nf c) [] p.E tl) δ Φ := fun G O σ H A Q f => by
  refine h G O σ H A _ fun ds k1 vs H1 h1 k A1 r1 => ?_
  rw [List.append_nil]
  obtain ⟨a, pa, e, ps, nb⟩ := h1
  exact ⟨a, Pc G O δ.sl, ds, fun a ha => A1.free ha, r1, ⟨e, pa⟩, fun d v H' q s r2 => f d k1 v H' (ps d q) (k.trans (.same s)) (A1.same s) r2,
    fun n dd H' q s e => A1.ex n (nb n q) dd H' (fun a o z w => s a o (A1.base a o z w)) e⟩
theorem wE_fnS {E : XK} {c : CtB α} (h : wA p tl δ fun ds δ1 => ∃ a s, c.pre a δ1.k ∧ δ1.s = some s ∧ ds = c.args s a ∧ ∀ d k', c.post a δ1.k d k' → Φ d (δ1.k' k')) : wE p (tCall (spB p.K p.wc c) [] E tl) δ Φ := fun G O σ H A Q f => by
  refine h G O σ H A _ fun ds k1 vs H1 h1 k A1 r1 => ?_
  rw [List.append_nil]
  obtain ⟨a, s, hp, es, e, hq⟩ := h1
  have gs : G.s = some s := A1.sp.symm.trans es
  refine ⟨a, Pc G O δ.sl, ds, s, k1, fun a ha => A1.free ha, fun q => (A1.spot s gs).2 q.1, (A1.spot s gs).1, r1, ⟨e, hp⟩, fun d k' v H' q s2 e r2 => ?_⟩
  have s2' : Kp G.s H1 H' := by rw [gs]; exact s2
  refine f d k' v H' (hq d k' q) (k.trans s2') (A1.next s2' fun s' e' => ?_) r2
  rw [gs] at e'; cases e'; exact e
theorem wE_me {E : XK} {w : Way} {m : Str} {c : CtA α} (h : wE p ta δ fun a δ1 => a = .way w ∧ wA p tl δ1 fun ds δ2 => ∃ a, c.pre a ∧ .way w :: ds = c.args a ∧ (∀ d, c.post a d → Φ d δ2) ∧ ∀ n, ¬ c.bad a n) :
    wE p (tMeth (p.wc w) m (spA p.K p.wc p.nf c) [] E ta tl) δ Φ := fun G O σ H A Q f => by
  refine h G O σ H A _ fun a k1 x H1 h1 k A1 r1 => ?_
  obtain ⟨e, h1⟩ := h1
  subst e
  have r1' := r1
  unfold Rep at r1
  obtain ⟨a, dx, rfl, e⟩ := r1
  refine ⟨a, dx, [], rfl, e, rfl, ?_⟩
  refine h1 G O σ H1 A1 _ fun ds k2 vs H2 h2 k' A2 r2 => ?_
  rw [List.append_nil]
  obtain ⟨a, pa, e, ps, nb⟩ := h2
  exact ⟨a, Pc G O δ.sl, .way w :: ds, fun a ha => A2.free ha, .cons (A1.rep k' r1') r2, ⟨e, pa⟩, fun d v H' q s r3 => f d k2 v H' (ps d q) ((k.trans k').trans (.same s)) (A2.same s) r3, fun n dd H' q => absurd q (nb n)⟩
/-! ### more operations -/
theorem wR_catT {l m : List D} {Φ : D → Prop} (hl : l.length + m.length ≤ 16777216) (q : Φ (.tup (l ++ m))) : wR p (rCatA p.K) (.tup l) (.tup m) Φ := fun P H x y Q hP rx ry f => by
  unfold Rep at rx ry
  obtain ⟨a, vs, rfl, s1, r1⟩ := rx
  obtain ⟨b, us, rfl, s2, r2⟩ := ry
  refine ⟨a, b, vs, us, rfl, rfl, s1, s2, by rw [r1.len, r2.len, sizeLine_eq]; exact hl, fun e => ?_, fun _ e => ?_, fun _ _ c hc => ?_⟩
  · subst e
    have : l = [] := List.eq_nil_of_length_eq_zero (by rw [← r1.len]; rfl)
    subst this
    exact f _ _ H q (Same.refl H) (by unfold Rep; exact ⟨b, us, rfl, s2, r2⟩)
  · subst e
    have : m = [] := List.eq_nil_of_length_eq_zero (by rw [← r2.len]; rfl)
    subst this
    rw [List.append_nil] at q
    exact f _ _ H q (Same.refl H) (by unfold Rep; exact ⟨a, vs, rfl, s1, r1⟩)
  · have sm : Same H (upd H c (.tup (vs ++ us))) := fun b o z => by rw [upd_ne (ne_of_none z hc)]; exact z
    exact f _ _ _ q sm (by unfold Rep; exact ⟨c, _, rfl, SqT.of upd_same, (r1.append r2).same sm⟩)
theorem wE_even (h : wE p ta δ fun a δ1 => ∃ s, a = .str s ∧ s.length ≤ 16777216 ∧ (evens (S s)).length ≤ 16777216 ∧ Φ (.str (evens (S s)).cps.toList) δ1) : wE p (tEven ta) δ Φ := fun G O σ H A Q f => by
  refine h G O σ H A _ fun a k1 x H1 h1 k A1 r1 => ?_
  obtain ⟨s, e, hl, h2, q⟩ := h1
  subst e; unfold Rep at r1; subst r1
  exact ⟨S s, rfl, by rw [S_len, sizeLine_eq]; exact hl, by rw [sizeLine_eq]; exact h2, f _ k1 _ H1 q k A1 (by unfold Rep; rw [S_tl])⟩
/-- a written tuple, by its items -/
theorem wE_ref {a : Addr} {vs : List V} {l : List D} (s : ∀ H, SqT p.K H a vs) (r : ∀ P H, RepL p.K p.wc l P H vs) (q : Φ (.tup l) δ) : wE p (tC (.ref a)) δ Φ := wE_c (fun P H => by unfold Rep; exact ⟨a, vs, rfl, s H, r P H⟩) q
end
/-! ### functions -/
section
variable {α : Type} {K : PySem.W.Frag} {wc : Way → Addr} {nf : Addr} {N : List Str} {E : XK} {vs : List V} {H : Hp} {Q : VK}
theorem pure_A {c : CtA α} (hl : ∀ a, c.pre a → (c.args a).length ≤ N.length) (hs : spA K wc nf c vs H Q E) :
    ∃ a, c.pre a ∧ ∀ t, wS ⟨K, wc, nf, E, c.bad a⟩ t (st0 N.length (c.args a)) { nx := fun _ => c.post a .non, rt := fun d _ => c.post a d } → t { nx := fun _ H' => Q .non H', rt := Q } (L2.start N vs) H := by
  obtain ⟨a, hs⟩ := hs
  obtain ⟨P, ds, hP, r, pre, q, b⟩ := id hs
  refine ⟨a, pre.2, fun t h => ?_⟩
  exact pure_fn (c := c.at a) (N := N) (fun ds h => by rw [h.1]; exact hl a h.2) hs fun ds h' => by
    obtain ⟨rfl, _⟩ := h'
    exact h
theorem pure_B {c : CtB α} (hl : ∀ s a k, c.pre a k → (c.args s a).length ≤ N.length) (hs : spB K wc c vs H Q E) :
    ∃ a, ∀ t, (∀ s k, c.pre a k → wS ⟨K, wc, nf, E, fun _ => False⟩ t ⟨(st0 N.length (c.args s a)).sl, some s, k⟩ { nx := fun δ => c.post a k .non δ.k, rt := fun d δ => c.post a k d δ.k }) → t { nx := fun _ H' => Q .non H', rt := Q } (L2.start N vs) H := by
  obtain ⟨a, hs⟩ := hs
  refine ⟨a, fun t h => ?_⟩
  exact pure_fnS (nf := nf) (c := c.at a) (N := N) (fun s ds k h => by rw [h.1]; exact hl s a k h.2) hs fun s ds k h' => by
    obtain ⟨rfl, q⟩ := h'
    exact h s k q
theorem spA_len {c : CtA α} {n : Nat} (hl : ∀ a, c.pre a → (c.args a).length = n) : ∀ vs H Q E, spA K wc nf c vs H Q E → vs.length = n := fun vs H Q E h => by
  obtain ⟨a, P, ds, hP, r, pre, q, b⟩ := h
  rw [r.len, pre.1, hl a pre.2]
theorem spB_len {c : CtB α} {n : Nat} (hl : ∀ s a k, c.pre a k → (c.args s a).length = n) : ∀ vs H Q E, spB K wc c vs H Q E → vs.length = n := fun vs H Q E h => by
  obtain ⟨a, P, ds, s, k, hP, nP, es, r, pre, q⟩ := h
  rw [r.len, pre.1, hl s a k pre.2]
end
/-! ### what of the written part is a def by its name, a method of a class -/
structure Fn (P : Program) (w : World) (K : PySem.W.Frag) (mg : Str → Option Value) (base : Heap) (x : Str) (ps : List Str) (n : Nat) (sp : Sp) : Prop where
  ex : ∃ f fd, mg x = some (.ref f) ∧ PySem.W.keepIn K (.ref f) = true ∧ Binds K fd ps [] ∧ FnOk P w K mg base (L2.CX P w) n f fd ps sp
structure Me (P : Program) (w : World) (K : PySem.W.Frag) (mg : Str → Option Value) (base : Heap) (C : Addr) (m : Str) (ps : List Str) (n : Nat) (sp : Sp) : Prop where
  ex : ∃ f fd, Meth K C m f ∧ Binds K fd ps [] ∧ FnOk P w K mg base (L2.CX P w) n f fd ps sp
theorem Fn.up {P : Program} {w : World} {K : PySem.W.Frag} {mg : Str → Option Value} {base : Heap} {x : Str} {ps : List Str} {n m : Nat} {sp : Sp} (F : Fn P w K mg base x ps n sp) (h : n ≤ m) : Fn P w K mg base x ps m sp := by
  obtain ⟨f, fd, h1, h2, h3, h4⟩ := F.ex
  exact ⟨f, fd, h1, h2, h3, h4.mono h⟩
theorem Me.up {P : Program} {w : World} {K : PySem.W.Frag} {mg : Str → Option Value} {base : Heap} {C : Addr} {x : Str} {ps : List Str} {n m : Nat} {sp : Sp} (F : Me P w K mg base C x ps n sp) (h : n ≤ m) : Me P w K mg base C x ps m sp := by
  obtain ⟨f, fd, h1, h3, h4⟩ := F.ex
  exact ⟨f, fd, h1, h3, h4.mono h⟩
section
variable {X : Cx} {n k : Nat} {ps : List Str} {sp : Sp} {E : XK} {x m : Str} {C : Addr} {p pos apos : Pos} {e o : Expr} {es : List Expr} {ta : TE} {t : TA}
theorem pe_fn (F : Fn X.prog X.w X.K X.mg X.base x ps n sp) (hr : Room k X.A) (hn : n ≤ k) (hg : Gl X x) (hx : Passes (L2.CX X.prog X.w) X E) (ha : PA X (e :: es) t)
    (hdb : (x == ("__debug__" : Str)) = false := by decide) (he : starEach (e :: es) X.env = (false, eval e X.env) :: starEach es X.env := by rfl) (hpl : (backTo pos (starEach es X.env)).any (·.1) = false := by rfl) :
    PE X (.Call (.Name x p) (e :: es) [] pos) (tCall sp [] E t) := by
  obtain ⟨f, fd, h1, h2, h3, h4⟩ := F.ex
  exact pe_call h4 (hr.mono hn) hg h1 h2 h3 .nil hx ha hdb he hpl
theorem pe_fn0 (F : Fn X.prog X.w X.K X.mg X.base x ps n sp) (hr : Room k X.A) (hn : n ≤ k) (hg : Gl X x) (hx : Passes (L2.CX X.prog X.w) X E)
    (hdb : (x == ("__debug__" : Str)) = false := by decide) : PE X (.Call (.Name x p) [] [] pos) (tCall sp [] E tNil) := by
  obtain ⟨f, fd, h1, h2, h3, h4⟩ := F.ex
  exact pe_call0 h4 (hr.mono hn) hg h1 h2 h3 .nil hx hdb
theorem pe_me {pl : Sem Bool} (c : Cls X.K C) (M : Me X.prog X.w X.K X.mg X.base C m ps n sp) (hr : Room k X.A) (hn : n ≤ k) (hx : Passes (L2.CX X.prog X.w) X E) (he : PE X o ta) (ha : PA X (e :: es) t)
    (hst : starEach (e :: es) X.env = (false, eval e X.env) :: starEach es X.env := by rfl) (hpl : (backTo pos (starEach es X.env)).any (·.1) = false := by rfl)
    (ht : eval (.Call (.Attribute o m apos) (e :: es) [] pos) X.env = (do
      let ov ← eval o X.env
      standAt apos.atName
      let (f, first) ← holding [ov] (getMethod ov m pl)
      callWith pos f first (backTo pos (starEach (e :: es) X.env)) (backToKw pos (keywordEach [] X.env))) := by rfl) :
    PE X (.Call (.Attribute o m apos) (e :: es) [] pos) (tMeth C m sp [] E ta t) := by
  obtain ⟨f, fd, h1, h3, h4⟩ := M.ex
  exact pe_meth he c h1 h4 (hr.mono hn) h3 .nil hx ha hst hpl ht
theorem pe_me0 {pl : Sem Bool} (c : Cls X.K C) (M : Me X.prog X.w X.K X.mg X.base C m ps n sp) (hr : Room k X.A) (hn : n ≤ k) (hx : Passes (L2.CX X.prog X.w) X E) (he : PE X o ta)
    (ht : eval (.Call (.Attribute o m apos) [] [] pos) X.env = (do
      let ov ← eval o X.env
      standAt apos.atName
      let (f, first) ← holding [ov] (getMethod ov m pl)
      callWith pos f first (backTo pos (starEach [] X.env)) (backToKw pos (keywordEach [] X.env))) := by rfl) :
    PE X (.Call (.Attribute o m apos) [] [] pos) (tMeth C m sp [] E ta tNil) := by
  obtain ⟨f, fd, h1, h3, h4⟩ := M.ex
  exact pe_meth0 he c h1 h4 (hr.mono hn) h3 .nil hx ht
end
/-! ### the facts -/
def gS (mg : Str → Option Value) (x : Str) (t : Str) : Prop := ∃ u, mg x = some u ∧ RelV (.str t) u
def gI (mg : Str → Option Value) (x : Str) (i : Int) : Prop := ∃ u, mg x = some u ∧ RelV (.int i) u
def wayC : Way → Str
  | .word => "Word" | .number => "Number" | .quoted => "Quoted" | .plain => "Plain" | .line => "Line"
structure Fx (K : PySem.W.Frag) (mg : Str → Option Value) (wc : Way → Addr) (nf : Addr) : Prop where
  b_len : mg "len" = none
  b_all : mg "all" = none
  b_any : mg "any" = none
  b_isinstance : mg "isinstance" = none
  b_int : mg "int" = none
  b_str : mg "str" = none
  b_tuple : mg "tuple" = none
  b_range : mg "range" = none
  b_enumerate : mg "enumerate" = none
  b_zip : mg "zip" = none
  b_abs : mg "abs" = none
  b_max : mg "max" = none
  b_bool : mg "bool" = none
  b_list : mg "list" = none
  b_dict : mg "dict" = none
  gLETTERS : gS mg "LETTERS" "abcdefghijklmnopqrstuvwxyz"
  gGREAT : gS mg "GREAT" "ABCDEFGHIJKLMNOPQRSTUVWXYZ"
  gFIGURES : gS mg "FIGURES" "0123456789"
  gSIGNS : gS mg "SIGNS" "\n !\"#$&'()*+,-./0123456789:;<=>?@ABCDEFGHIJKLMNOPQRSTUVWXYZ[\\]^_`abcdefghijklmnopqrstuvwxyz{|}~"
  gMOST_SIGNS : gI mg "MOST_SIGNS" 400
  gMOST_LETTERS : gI mg "MOST_LETTERS" 40
  gPLAIN_ENDS : gS mg "PLAIN_ENDS" "\n&<>|"
  gAT_END : ∃ a, mg "AT_END" = some (.ref a) ∧ ∀ H, SqT K H a [.str (S []), .bl true]
  way : ∀ w, mg (wayC w) = some (.ref (wc w)) ∧ Mk0 K (wc w) ∧ Cls K (wc w)
  nfm : mg "NoFill" = some (.ref nf)
  nfo : OexC K nf
  nfa : PySem.W.findIn K (.ref nf) "at" = some none
theorem bb_len : bootBuiltins "len" = some (.builtin "len") := by decide +kernel
theorem bb_all : bootBuiltins "all" = some (.builtin "all") := by decide +kernel
theorem bb_any : bootBuiltins "any" = some (.builtin "any") := by decide +kernel
theorem bb_isinstance : bootBuiltins "isinstance" = some (.builtin "isinstance") := by decide +kernel
theorem bb_int : bootBuiltins "int" = some (.type "int") := by decide +kernel
theorem bb_str : bootBuiltins "str" = some (.type "str") := by decide +kernel
theorem bb_tuple : bootBuiltins "tuple" = some (.type "tuple") := by decide +kernel
theorem bb_abs : bootBuiltins "abs" = some (.builtin "abs") := by decide +kernel
theorem bb_max : bootBuiltins "max" = some (.builtin "max") := by decide +kernel
theorem bb_bool : bootBuiltins "bool" = some (.type "bool") := by decide +kernel
theorem bb_list : bootBuiltins "list" = some (.type "list") := by decide +kernel
theorem bb_dict : bootBuiltins "dict" = some (.type "dict") := by decide +kernel
/-! ### forms and fills as data -/
abbrev pthD (p : List T) : D := .tup (p.map D.str)
def wayS : Way → T
  | .word => cs "word" | .number => cs "number" | .quoted => cs "quoted" | .plain => cs "plain" | .line => cs "line"
mutual
def ndN : Node → D
  | .text t => .tup [.str (cs "text"), .str t]
  | .place p w => .tup [.str (cs "place"), pthD p, .str (wayS w)]
  | .loop nm p b btw => .tup [.str (cs "loop"), .str nm, pthD p, .tup (ndL b), .str btw]
  | .choice p y n => .tup [.str (cs "choice"), pthD p, .tup (ndL y), .tup (ndL n)]
def ndL : List Node → List D
  | [] => []
  | n :: ns => ndN n :: ndL ns
end
theorem ndL_map : ∀ ns, ndL ns = ns.map ndN
  | [] => by simp [ndL]
  | n :: ns => by simp [ndL, ndL_map ns]
abbrev FD (ns : List Node) : D := .tup (ndL ns)
def vlD : Vl → D
  | .num i => .int i
  | .txt t => .str t
abbrev foD (fo : Fo) : D := .tup [.str fo.1, .bl fo.2]
mutual
def rdD : Node → Fo → D
  | .text t, _ => .tup [.str (cs "text"), .str t]
  | .place _ w, _ => .tup [.str (cs "place"), .way w]
  | .loop _ _ b btw, fo => .tup [.str (cs "loop"), .str (bgL b []).1, .str (againB b btw), .lst (rdDs b (withinL b btw fo)), .str btw]
  | .choice _ y n, fo => .tup [.str (cs "choice"), .lst [.tup [.bl true, foD (sideB y fo), .lst (rdDs y fo)], .tup [.bl false, foD (sideB n fo), .lst (rdDs n fo)]]]
def rdDs : List Node → Fo → List D
  | [], _ => []
  | n :: ns, fo => rdD n (sideB ns fo) :: rdDs ns fo
end
mutual
def fiD : Fill → D
  | .val v => vlD v
  | .rounds rs => .lst (fiR rs)
  | .side b fs => .tup [.bl b, .lst (fiL fs)]
def fiL : List Fill → List D
  | [] => []
  | f :: fs => fiD f :: fiL fs
def fiR : List (List Fill) → List D
  | [] => []
  | r :: rs => .lst (fiL r) :: fiR rs
end
theorem fiL_map : ∀ fs, fiL fs = fs.map fiD
  | [] => by simp [fiL]
  | n :: ns => by simp [fiL, fiL_map ns]
theorem fiR_map : ∀ rs, fiR rs = rs.map fun r => .lst (fiL r)
  | [] => by simp [fiR]
  | n :: ns => by simp [fiR, fiR_map ns]
mutual
/-- a good form: texts not void, of signs, not over long; lists not over long -/
def gdN : Node → Prop
  | .text t => t ≠ [] ∧ allSG t = true ∧ t.length ≤ 100000
  | .place _ _ => True
  | .loop _ _ b btw => gdL b ∧ allSG btw = true ∧ btw.length ≤ 100000
  | .choice _ y n => gdL y ∧ gdL n
def gdL : List Node → Prop
  | [] => True
  | n :: ns => gdN n ∧ gdL ns ∧ ns.length ≤ 1000
end
mutual
theorem gdN_va : ∀ n, gdN n → vaN n
  | .text t, h => by rw [gdN] at h; rw [vaN]; exact ⟨h.1, h.2.1⟩
  | .place p w, h => by rw [vaN]; trivial
  | .loop nm p b btw, h => by
    have := gdL_va b
    rw [gdN] at h; rw [vaN]; exact ⟨this h.1, h.2.1⟩
  | .choice p y n, h => by
    have h1 := gdL_va y
    have h2 := gdL_va n
    rw [gdN] at h; rw [vaN]; exact ⟨h1 h.1, h2 h.2⟩
theorem gdL_va : ∀ ns, gdL ns → vaL ns
  | [], _ => by rw [vaL]; trivial
  | n :: ns, h => by
    have h1 := gdN_va n
    have h2 := gdL_va ns
    rw [gdL] at h; rw [vaL]; exact ⟨h1 h.1, h2 h.2.1⟩
end
theorem gdL_len : ∀ {ns : List Node}, gdL ns → ns.length ≤ 1001
  | [], _ => by simp
  | n :: ns, h => by rw [gdL] at h; simp; omega
theorem gdL_mem : ∀ {ns : List Node}, gdL ns → ∀ n ∈ ns, gdN n
  | [], _, n, hn => by cases hn
  | m :: ns, h, n, hn => by
    rw [gdL] at h
    rcases List.mem_cons.mp hn with e | hn
    · rw [e]; exact h.1
    · exact gdL_mem h.2.1 n hn
theorem gdL_drop : ∀ (i : Nat) {ns : List Node}, gdL ns → gdL (ns.drop i)
  | 0, _, h => h
  | i + 1, [], h => h
  | i + 1, n :: ns, h => by rw [gdL] at h; exact gdL_drop i h.2.1
theorem dpL_drop {d : Nat} (i : Nat) {ns : List Node} (h : dpL ns ≤ d) : dpL (ns.drop i) ≤ d := dpL_le.mpr fun n hn => dpL_le.mp h n (List.mem_of_mem_drop hn)
end K16
end

section
set_option maxHeartbeats 4000000
set_option autoImplicit false
/-! DL7: helpers for the walks. -/
namespace K16
open PySem PySem.Spec PyProof.Rows L2 SX
theorem way_and {w : Way} {q : Prop} (h : q) : D.way w = D.way w ∧ q := ⟨rfl, h⟩
theorem len_and {l : List D} {q : Prop} (h : l.length ≤ 16777216) (g : q) : l.length ≤ 16777216 ∧ q := ⟨h, g⟩
theorem int_and {i : Int} {q : Prop} (h : q) : D.int i = D.int i ∧ q := ⟨rfl, h⟩
theorem cdiv_c {i j : Int} (h1 : 0 < j) (h2 : j < 1073741824) : CDiv i j := ⟨h1, h2⟩
theorem cmul_l {i j : Int} (h1 : -18446744073709551616 < i) (h2 : i < 18446744073709551616) : CMul i j := .inl ⟨h1, h2⟩
theorem cmul_r {i j : Int} (h1 : -18446744073709551616 < j) (h2 : j < 18446744073709551616) : CMul i j := .inr ⟨h1, h2⟩
theorem ite_t {a b : Prop} (h : a) : if true = true then a else b := by rw [if_pos rfl]; exact h
theorem ite_f {a b : Prop} (h : b) : if false = true then a else b := by rw [if_neg (by simp)]; exact h
theorem ite_b {a b : Prop} {c : Bool} (h : c = true → a) (g : c = false → b) : if c = true then a else b := by
  cases c with
  | true => rw [if_pos rfl]; exact h rfl
  | false => rw [if_neg (by simp)]; exact g rfl
section
variable {p : Pr} {δ : DSt} {te ta tb tc : TE} {tt tu : TT} {t u : TS} {Φ : D → DSt → Prop} {Ψ : DEn}
theorem wS_cut {I : DSt → Prop} (h : wS p t δ { Ψ with nx := I }) (g : ∀ δ', I δ' → wS p u δ' Ψ) : wS p (tSeq t u) δ Ψ := fun G O σ H A F e =>
  h G O σ H A { F with nx := u F } ⟨fun δ' O' σ' H' q A' => g δ' q G O' σ' H' A' F e, e.rt, e.bk, e.ct⟩
theorem wS_nx {I : DSt → Prop} (h : wS p t δ { Ψ with nx := I }) (g : ∀ δ', I δ' → Ψ.nx δ') : wS p t δ Ψ := fun G O σ H A F e =>
  h G O σ H A F ⟨fun δ' O' σ' H' q A' => e.nx δ' O' σ' H' (g δ' q) A', e.rt, e.bk, e.ct⟩
theorem wE_lcM {wi : TI} {g : TG} {vs : List Nat} (hg : GW g vs)
    (h : wI p wi δ fun l δ1 => ∃ rs : List D, l.length ≤ 16777216 ∧ rs.length = l.length ∧ (∀ (i : Nat) (d : D), l[i]? = some d → wG p g d (hid δ1 vs) fun δ2 => wE p te δ2 fun y δ3 => rs[i]? = some y ∧ δ3.k = δ1.k) ∧ Φ (.lst rs) δ1) : wE p (tLc wi g tYes te vs) δ Φ := by
  refine wE_lc hg fun G O σ H A R f => h G O σ H A R fun l k J H1 ⟨rs, hl, e, el, q⟩ => f l k J H1 ⟨fun i acc k' => acc = rs.take i ∧ k' = k, ⟨by simp, rfl⟩, fun i d acc k' hd ⟨ea, ek⟩ => ?_, fun acc k' ⟨ea, ek⟩ => ?_⟩
  · subst ek
    have := el i d hd
    refine fun G O σ H x A r Q f => this G O σ H x A r Q fun δ' σ' w A' hk => f δ' σ' ?_ A' hk
    refine wT_yes (ite_t (w.mono fun y δ3 z => ⟨?_, ?_, z.2⟩))
    · have := (List.getElem?_eq_some_iff.mp hd).1
      rw [ea, List.length_take]; omega
    · rw [ea, List.take_add_one, z.1]; rfl
  · subst ea ek
    rw [List.take_of_length_le (by omega)]; exact q
theorem wE_lcF {wi : TI} {g : TG} {vs : List Nat} (b : D → Bool) (hg : GW g vs)
    (h : wI p wi δ fun l δ1 => l.length ≤ 16777216 ∧ (∀ (i : Nat) (d : D), l[i]? = some d → wG p g d (hid δ1 vs) fun δ2 => wT p tt δ2 fun b' δ3 => b' = b d ∧ δ3.k = δ1.k ∧ (b d = true → wE p te δ3 fun y δ4 => y = d ∧ δ4.k = δ1.k)) ∧ Φ (.lst (l.filter b)) δ1) : wE p (tLc wi g tt te vs) δ Φ := by
  refine wE_lc hg fun G O σ H A R f => h G O σ H A R fun l k J H1 ⟨hl, el, q⟩ => f l k J H1 ⟨fun i acc k' => acc = (l.take i).filter b ∧ k' = k, ⟨by simp, rfl⟩, fun i d acc k' hd ⟨ea, ek⟩ => ?_, fun acc k' ⟨ea, ek⟩ => ?_⟩
  · subst ek
    have := el i d hd
    refine fun G O σ H x A r Q f => this G O σ H x A r Q fun δ' σ' w A' hk => f δ' σ' (w.mono ?_) A' hk
    rintro b' δ3 ⟨e1, e2, w2⟩
    subst e1
    refine ite_b (fun hb => (w2 hb).mono fun y δ4 z => ⟨?_, ?_, z.2⟩) fun hb => ⟨?_, e2⟩
    · have := (List.getElem?_eq_some_iff.mp hd).1
      have h2 : acc.length ≤ (l.take i).length := by rw [ea]; exact List.length_filter_le _ _
      rw [List.length_take] at h2; omega
    · rw [ea, List.take_add_one, hd, List.filter_append, z.1]; simp [hb]
    · rw [ea, List.take_add_one, hd, List.filter_append]; simp [hb]
  · subst ea ek
    rw [List.take_of_length_le (by omega)] at *; exact q
theorem wN_lcF {wi : TI} {g : TG} {vs : List Nat} {Φ : List D → DSt → Prop} (b : D → Bool) (hg : GW g vs)
    (h : wI p wi δ fun l δ1 => l.length ≤ 16777216 ∧ (∀ (i : Nat) (d : D), l[i]? = some d → wG p g d (hid δ1 vs) fun δ2 => wT p tt δ2 fun b' δ3 => b' = b d ∧ δ3.k = δ1.k ∧ (b d = true → wE p te δ3 fun y δ4 => y = d ∧ δ4.k = δ1.k)) ∧ Φ (l.filter b) δ1) : wN p (tLc wi g tt te vs) δ Φ := by
  refine wN_lc hg fun G O σ H A R f => h G O σ H A R fun l k J H1 ⟨hl, el, q⟩ => f l k J H1 ⟨fun i acc k' => acc = (l.take i).filter b ∧ k' = k, ⟨by simp, rfl⟩, fun i d acc k' hd ⟨ea, ek⟩ => ?_, fun acc k' ⟨ea, ek⟩ => ?_⟩
  · subst ek
    have := el i d hd
    refine fun G O σ H x A r Q f => this G O σ H x A r Q fun δ' σ' w A' hk => f δ' σ' (w.mono ?_) A' hk
    rintro b' δ3 ⟨e1, e2, w2⟩
    subst e1
    refine ite_b (fun hb => (w2 hb).mono fun y δ4 z => ⟨?_, ?_, z.2⟩) fun hb => ⟨?_, e2⟩
    · have := (List.getElem?_eq_some_iff.mp hd).1
      have h2 : acc.length ≤ (l.take i).length := by rw [ea]; exact List.length_filter_le _ _
      rw [List.length_take] at h2; omega
    · rw [ea, List.take_add_one, hd, List.filter_append, z.1]; simp [hb]
    · rw [ea, List.take_add_one, hd, List.filter_append]; simp [hb]
  · subst ea ek
    rw [List.take_of_length_le (by omega)] at *; exact q
theorem all_bl (l : List Bool) : (l.all id) = l.all (fun x => x) := rfl
end
/-! ### texts -/
theorem sgs_get {t : T} {i : Nat} {d : D} (h : (sgs t)[i]? = some d) : ∃ c, t[i]? = some c ∧ d = .str [c] := by
  rw [List.getElem?_map] at h
  cases q : t[i]? with
  | none => rw [q] at h; cases h
  | some c => rw [q] at h; exact ⟨c, rfl, (Option.some.inj h).symm⟩
theorem bls_get {b : Nat → Bool} {t : T} {i c : Nat} (h : t[i]? = some c) : ((t.map b).map D.bl)[i]? = some (.bl (b c)) := by simp [h]
theorem sg_cps : (Str.ofString "\n !\"#$&'()*+,-./0123456789:;<=>?@ABCDEFGHIJKLMNOPQRSTUVWXYZ[\\]^_`abcdefghijklmnopqrstuvwxyz{|}~").cps.toList = SG := by decide +kernel
theorem letters_cps : (Str.ofString "abcdefghijklmnopqrstuvwxyz").cps.toList = (List.range 26).map (· + 97) := by decide +kernel
theorem great_cps : (Str.ofString "ABCDEFGHIJKLMNOPQRSTUVWXYZ").cps.toList = (List.range 26).map (· + 65) := by decide +kernel
theorem figures_cps : (Str.ofString "0123456789").cps.toList = FIG := by decide +kernel
theorem plain_cps : (Str.ofString "\n&<>|").cps.toList = [10, 38, 60, 62, 124] := by decide +kernel
theorem sgs_filter (t : T) (b : D → Bool) : (sgs t).filter b = sgs (t.filter fun c => b (.str [c])) := by
  rw [List.filter_map]; rfl
theorem sgs_strs (t : T) : sgs t = (t.map fun c => [c]).map D.str := by simp
def sgB (b : Nat → Bool) : D → Bool
  | .str [c] => b c
  | _ => false
theorem sgs_filterB (t : T) (b : Nat → Bool) : (sgs t).filter (sgB b) = (t.filter b |>.map fun c => [c]).map D.str := by
  rw [sgs_filter, sgs_strs]; rfl
theorem cps_nil : (Str.ofString "").cps.toList = [] := by decide
theorem join_signs : ∀ t : T, join [] (t.map fun c => [c]) = t
  | [] => rfl
  | [a] => rfl
  | a :: b :: r => by
    have := join_signs (b :: r)
    show [a] ++ ([] ++ join [] ((b :: r).map fun c => [c])) = _
    rw [this]; rfl
theorem signs_len (t : T) : ((t.map fun c => [c]).map List.length).sum = t.length := by
  induction t with
  | nil => rfl
  | cons a t ih => simp at *; omega
theorem filt_le {b : Nat → Bool} : (((SG.filter b).map fun c => [c]).map List.length).sum + ((SG.filter b).map fun c => [c]).length * ([] : T).length ≤ 16777216 := by
  rw [signs_len]
  have := List.length_filter_le b SG
  have h2 : SG.length = 95 := by decide
  simp; omega
end K16
end

section
set_option maxHeartbeats 4000000
set_option autoImplicit false
/-! M7: data compared at any depth. -/
namespace K16
open PySem PySem.Spec PyProof.Rows L2 SX
mutual
def dpD : D → PyData
  | .non => .none
  | .bl b => .bool b
  | .int i => .int i
  | .str t => .str (S t)
  | .tup l => .tuple (dpDs l)
  | .lst l => .list (dpDs l)
  | _ => .none
def dpDs : List D → List PyData
  | [] => []
  | d :: l => dpD d :: dpDs l
end
mutual
/-- plain data of texts whose signs are signs -/
def okD : D → Prop
  | .non => True
  | .bl _ => True
  | .int _ => True
  | .str t => ∀ c ∈ t, c < 1114112
  | .tup l => okDs l
  | .lst l => okDs l
  | _ => False
def okDs : List D → Prop
  | [] => True
  | d :: l => okD d ∧ okDs l
end
mutual
def deD : D → Nat
  | .tup l => deDs l + 1
  | .lst l => deDs l + 1
  | _ => 0
def deDs : List D → Nat
  | [] => 0
  | d :: l => max (deD d) (deDs l)
end
theorem okDs_iff : ∀ {l : List D}, okDs l ↔ ∀ d ∈ l, okD d
  | [] => by rw [okDs]; simp
  | d :: l => by rw [okDs, okDs_iff]; simp
theorem deDs_le {n : Nat} : ∀ {l : List D}, deDs l ≤ n ↔ ∀ d ∈ l, deD d ≤ n
  | [] => by rw [deDs]; simp
  | d :: l => by rw [deDs, Nat.max_le, deDs_le]; simp
mutual
theorem rep_dp {K : PySem.W.Frag} {wc : Way → Addr} {P : Addr → Prop} {H : Hp} : ∀ (d : D) (P : Addr → Prop) (v : V), okD d → Rep K wc d P H v → Dp K H v (dpD d)
  | .non, _, v, _, h => by unfold Rep at h; subst h; rw [dpD]; exact .non
  | .bl b, _, v, _, h => by unfold Rep at h; subst h; rw [dpD]; exact .bl b
  | .int i, _, v, _, h => by unfold Rep at h; subst h; rw [dpD]; exact .int i
  | .str t, _, v, _, h => by unfold Rep at h; subst h; rw [dpD]; exact .str _
  | .tup l, P, v, o, h => by
    have ih := rep_dps (K := K) (wc := wc) (P := P) (H := H) l
    rw [okD] at o
    unfold Rep at h
    obtain ⟨a, vs, rfl, s, r⟩ := h
    rw [dpD]; exact .tup s (ih P vs o r)
  | .lst l, P, v, o, h => by
    have ih := rep_dps (K := K) (wc := wc) (P := P) (H := H) l
    rw [okD] at o
    unfold Rep at h
    obtain ⟨a, vs, rfl, _, s, r⟩ := h
    rw [dpD]; exact .lst (SqL.of s) (ih _ vs o r)
  | .ty _, _, _, o, _ => o.elim
  | .adr _, _, _, o, _ => o.elim
  | .way _, _, _, o, _ => o.elim
  | .dic _, _, _, o, _ => o.elim
theorem rep_dps {K : PySem.W.Frag} {wc : Way → Addr} {P : Addr → Prop} {H : Hp} : ∀ (l : List D) (P : Addr → Prop) (vs : List V), okDs l → RepL K wc l P H vs → DpAll K H vs (dpDs l)
  | [], _, vs, _, h => by rw [h.unnil, dpDs]; exact .nil
  | d :: l, P, vs, o, h => by
    have ih := rep_dp (K := K) (wc := wc) (P := P) (H := H) d
    have ihl := rep_dps (K := K) (wc := wc) (P := P) (H := H) l
    rw [okDs] at o
    obtain ⟨v, r, rfl, h1, h2⟩ := h.uncons
    rw [dpDs]; exact .cons (ih P v o.1 h1) (ihl P r o.2 h2)
end
theorem strOk_S {t : T} (h : ∀ c ∈ t, c < 1114112) : PyData.strOk (S t) = true := by
  unfold PyData.strOk
  rw [← Array.all_toList]
  exact List.all_eq_true.mpr fun c hc => decide_eq_true (h c hc)
mutual
theorem dp_lay : ∀ d, okD d → (dpD d).canLay0 = true
  | .non, _ => by rw [dpD]; rfl
  | .bl b, _ => by rw [dpD]; rfl
  | .int i, _ => by rw [dpD]; rfl
  | .str t, o => by rw [okD] at o; rw [dpD]; exact strOk_S o
  | .tup l, o => by
    have ih := dps_lay l
    rw [okD] at o; rw [dpD]; exact ih o
  | .lst l, o => by
    have ih := dps_lay l
    rw [okD] at o; rw [dpD]; exact ih o
  | .ty _, o => o.elim
  | .adr _, o => o.elim
  | .way _, o => o.elim
  | .dic _, o => o.elim
theorem dps_lay : ∀ l, okDs l → PyData.canLayAll0 (dpDs l) = true
  | [], _ => by rw [dpDs]; rfl
  | d :: l, o => by
    have ih := dp_lay d
    have ihl := dps_lay l
    rw [okDs] at o
    rw [dpDs, PyData.canLayAll0, ih o.1, ihl o.2]; rfl
end
mutual
theorem dp_de : ∀ d, (dpD d).depth = deD d
  | .non => by simp [dpD, deD, PyData.depth]
  | .bl b => by simp [dpD, deD, PyData.depth]
  | .int i => by simp [dpD, deD, PyData.depth]
  | .str t => by simp [dpD, deD, PyData.depth]
  | .tup l => by simp [dpD, deD, PyData.depth, dps_de l]
  | .lst l => by simp [dpD, deD, PyData.depth, dps_de l]
  | .ty _ => by simp [dpD, deD, PyData.depth]
  | .adr _ => by simp [dpD, deD, PyData.depth]
  | .way _ => by simp [dpD, deD, PyData.depth]
  | .dic _ => by simp [dpD, deD, PyData.depth]
theorem dps_de : ∀ l, PyData.depthAll (dpDs l) = deDs l
  | [] => by simp [dpDs, deDs, PyData.depthAll]
  | d :: l => by simp [dpDs, deDs, PyData.depthAll, dp_de d, dps_de l]
end
theorem shaped_D {d : D} (o : okD d) (h : deD d ≤ 64) : SeqAt.shaped (dpD d) = true := by
  unfold SeqAt.shaped
  rw [dp_lay d o, dp_de, decide_eq_true h]; rfl
section
variable {p : Pr}
theorem wR_neD {a b : D} {Φ : D → Prop} (oa : okD a) (ob : okD b) (da : deD a ≤ 64) (db : deD b ≤ 64) (q : Φ (.bl (!PyData.eqv (dpD a) (dpD b)))) : wR p (rNeD p.K) a b Φ := fun P H x y Q hP rx ry f =>
  ⟨dpD a, dpD b, rep_dp (P := P) a P x oa rx, rep_dp (P := P) b P y ob ry, shaped_D oa da, shaped_D ob db, f _ _ H q (Same.refl H) (by unfold Rep; rfl)⟩
theorem wR_eqD {a b : D} {Φ : D → Prop} (oa : okD a) (ob : okD b) (da : deD a ≤ 64) (db : deD b ≤ 64) (q : Φ (.bl (PyData.eqv (dpD a) (dpD b)))) : wR p (rEqD p.K) a b Φ := fun P H x y Q hP rx ry f =>
  ⟨dpD a, dpD b, rep_dp (P := P) a P x oa rx, rep_dp (P := P) b P y ob ry, shaped_D oa da, shaped_D ob db, f _ _ H q (Same.refl H) (by unfold Rep; rfl)⟩
theorem eqv_same {d : D} (o : okD d) : PyData.eqv (dpD d) (dpD d) = true := SeqAt.eqv_refl _ (dp_lay d o)
theorem eqv_nil (l : List D) : PyData.eqv (dpD (.lst l)) (dpD (.lst [])) = decide (l = []) := by
  cases l with
  | nil => simp [dpD, dpDs, PyData.eqv, PyData.eqvAll]
  | cons d l => simp [dpD, dpDs, PyData.eqv, PyData.eqvAll]
end
/-! ### fills, forms -/
theorem SG_ok {c : Nat} (h : c ∈ SG) : c < 1114112 := by have := mem_SG.mp h; omega
theorem ALN_ok {c : Nat} (h : c ∈ ALN) : c < 1114112 := by have := mem_ALN.mp h; omega
theorem vl_ok {w : Way} {v : Vl} (h : fits w v = true) : okD (vlD v) ∧ deD (vlD v) = 0 := by
  cases v with
  | num i => exact ⟨by unfold vlD; rw [okD]; trivial, by unfold vlD; rw [deD] <;> simp⟩
  | txt t =>
    refine ⟨?_, by unfold vlD; rw [deD] <;> simp⟩
    unfold vlD; rw [okD]
    cases w with
    | number => cases h
    | word =>
      simp [fits] at h
      exact fun c hc => ALN_ok (h.2 c hc)
    | quoted => simp [fits] at h; exact fun c hc => SG_ok (allSG_iff.mp h.2 c hc)
    | plain => simp [fits] at h; exact fun c hc => SG_ok (allSG_iff.mp h.2 c hc)
    | line => simp [fits] at h; exact fun c hc => SG_ok (allSG_iff.mp h.2 c hc)
mutual
theorem fiN_ok : ∀ (x : Node) (f : Fill), okN x f → okD (fiD f) ∧ deD (fiD f) ≤ 2 * dpN x
  | .text _, f, h => False.elim h
  | .place p w, f, h => by
    cases f with
    | val v =>
      have h : fits w v = true := h
      have := vl_ok h
      rw [fiD]; exact ⟨this.1, by rw [this.2]; omega⟩
    | rounds rs => exact False.elim h
    | side c fs => exact False.elim h
  | .loop nm p b btw, f, h => by
    have ih := fiL_ok b
    cases f with
    | val v => exact False.elim h
    | rounds rs =>
      have h : ∀ r ∈ rs, okL b r := h
      rw [fiD, okD, deD, okDs_iff, fiR_map, dpN]
      have key : ∀ d ∈ rs.map (fun r => D.lst (fiL r)), okD d ∧ deD d ≤ 2 * dpL b + 1 := fun d hd => by
        obtain ⟨r, hr, rfl⟩ := List.mem_map.mp hd
        have := ih r (h r hr)
        rw [okD, deD]; exact ⟨this.1, by omega⟩
      refine ⟨fun d hd => (key d hd).1, ?_⟩
      have := deDs_le.mpr fun d hd => (key d hd).2
      omega
    | side c fs => exact False.elim h
  | .choice p y n, f, h => by
    have ihy := fiL_ok y
    have ihn := fiL_ok n
    cases f with
    | val v => exact False.elim h
    | rounds rs => exact False.elim h
    | side c fs =>
      have h : if c then okL y fs else okL n fs := h
      have : okDs (fiL fs) ∧ deDs (fiL fs) ≤ 2 * max (dpL y) (dpL n) := by
        cases c with
        | true => have := ihy fs h; exact ⟨this.1, by omega⟩
        | false => have := ihn fs h; exact ⟨this.1, by omega⟩
      rw [fiD, okD, deD, dpN]
      simp only [okDs, deDs, okD, deD, and_true, true_and]
      exact ⟨this.1, by omega⟩
theorem fiL_ok : ∀ (ns : List Node) (fs : List Fill), okL ns fs → okDs (fiL fs) ∧ deDs (fiL fs) ≤ 2 * dpL ns
  | [], fs, h => by
    cases fs with
    | nil => rw [fiL, okDs, deDs]; exact ⟨trivial, by omega⟩
    | cons f fs => exact False.elim h
  | .text t :: ns, fs, h => by
    have ih := fiL_ok ns
    have h : okL ns fs := h
    have := ih fs h
    rw [dpL]; exact ⟨this.1, by omega⟩
  | .place p w :: ns, fs, h => by
    have ih := fiL_ok ns
    have ihx := fiN_ok (.place p w)
    cases fs with
    | nil => exact False.elim h
    | cons f fs =>
      have h : okN (.place p w) f ∧ okL ns fs := h
      have h1 := ihx f h.1
      have h2 := ih fs h.2
      rw [fiL, okDs, deDs, dpL]; exact ⟨⟨h1.1, h2.1⟩, by omega⟩
  | .loop nm p b btw :: ns, fs, h => by
    have ih := fiL_ok ns
    have ihx := fiN_ok (.loop nm p b btw)
    cases fs with
    | nil => exact False.elim h
    | cons f fs =>
      have h : okN (.loop nm p b btw) f ∧ okL ns fs := h
      have h1 := ihx f h.1
      have h2 := ih fs h.2
      rw [fiL, okDs, deDs, dpL]; exact ⟨⟨h1.1, h2.1⟩, by omega⟩
  | .choice p y n :: ns, fs, h => by
    have ih := fiL_ok ns
    have ihx := fiN_ok (.choice p y n)
    cases fs with
    | nil => exact False.elim h
    | cons f fs =>
      have h : okN (.choice p y n) f ∧ okL ns fs := h
      have h1 := ihx f h.1
      have h2 := ih fs h.2
      rw [fiL, okDs, deDs, dpL]; exact ⟨⟨h1.1, h2.1⟩, by omega⟩
end
/-- names and paths of signs -/
def pOk (p : List T) : Prop := ∀ t ∈ p, ∀ c ∈ t, c < 1114112
mutual
def nkN : Node → Prop
  | .text _ => True
  | .place p _ => pOk p
  | .loop nm p b _ => (∀ c ∈ nm, c < 1114112) ∧ pOk p ∧ nkL b
  | .choice p y n => pOk p ∧ nkL y ∧ nkL n
def nkL : List Node → Prop
  | [] => True
  | n :: ns => nkN n ∧ nkL ns
end
theorem nkL_iff : ∀ {ns : List Node}, nkL ns ↔ ∀ n ∈ ns, nkN n
  | [] => by rw [nkL]; simp
  | n :: ns => by rw [nkL, nkL_iff]; simp
theorem pth_ok {p : List T} (h : pOk p) : okD (pthD p) ∧ deD (pthD p) ≤ 1 := by
  rw [okD, deD, okDs_iff]
  refine ⟨fun d hd => ?_, ?_⟩
  · obtain ⟨t, ht, rfl⟩ := List.mem_map.mp hd
    rw [okD]; exact h t ht
  · have : deDs (p.map D.str) ≤ 0 := deDs_le.mpr fun d hd => by
      obtain ⟨t, ht, rfl⟩ := List.mem_map.mp hd
      rw [deD] <;> simp
    omega
theorem sg_ok {t : T} (h : allSG t = true) : ∀ c ∈ t, c < 1114112 := fun c hc => SG_ok (allSG_iff.mp h c hc)
theorem ways_ok (w : Way) : ∀ c ∈ wayS w, c < 1114112 := by cases w <;> decide
mutual
theorem ndN_ok : ∀ x, vaN x → nkN x → okD (ndN x) ∧ deD (ndN x) ≤ 2 * dpN x + 2
  | .text t, hv, _ => by
    rw [vaN] at hv
    rw [ndN]
    simp only [okD, okDs, deD, deDs, and_true]
    exact ⟨⟨by decide, sg_ok hv.2⟩, by omega⟩
  | .place p w, _, h => by
    rw [nkN] at h
    have := pth_ok h
    rw [ndN, okD, okDs, okDs, okDs, okDs, deD, deDs, deDs, deDs, deDs]
    refine ⟨⟨by rw [okD]; decide, this.1, by rw [okD]; exact ways_ok w, trivial⟩, ?_⟩
    have h1 : deD (.str (cs "place")) = 0 := by simp [deD]
    have h2 : deD (.str (wayS w)) = 0 := by simp [deD]
    omega
  | .loop nm p b btw, hv, h => by
    have ih := ndL_ok b
    rw [vaN] at hv; rw [nkN] at h
    have h1 := pth_ok h.2.1
    have h2 := ih hv.1 h.2.2
    rw [ndN, okD, okDs, okDs, okDs, okDs, okDs, okDs, deD, deDs, deDs, deDs, deDs, deDs, deDs, dpN]
    refine ⟨⟨by rw [okD]; decide, by rw [okD]; exact h.1, h1.1, by rw [okD]; exact h2.1, by rw [okD]; exact sg_ok hv.2, trivial⟩, ?_⟩
    have e1 : deD (.str (cs "loop")) = 0 := by simp [deD]
    have e2 : deD (.str nm) = 0 := by simp [deD]
    have e3 : deD (.str btw) = 0 := by simp [deD]
    have e4 : deD (.tup (ndL b)) = deDs (ndL b) + 1 := by rw [deD]
    omega
  | .choice p y n, hv, h => by
    have ihy := ndL_ok y
    have ihn := ndL_ok n
    rw [vaN] at hv; rw [nkN] at h
    have h1 := pth_ok h.1
    have h2 := ihy hv.1 h.2.1
    have h3 := ihn hv.2 h.2.2
    rw [ndN, okD, okDs, okDs, okDs, okDs, okDs, deD, deDs, deDs, deDs, deDs, deDs, dpN]
    refine ⟨⟨by rw [okD]; decide, h1.1, by rw [okD]; exact h2.1, by rw [okD]; exact h3.1, trivial⟩, ?_⟩
    have e1 : deD (.str (cs "choice")) = 0 := by simp [deD]
    have e4 : deD (.tup (ndL y)) = deDs (ndL y) + 1 := by rw [deD]
    have e5 : deD (.tup (ndL n)) = deDs (ndL n) + 1 := by rw [deD]
    omega
theorem ndL_ok : ∀ ns, vaL ns → nkL ns → okDs (ndL ns) ∧ deDs (ndL ns) ≤ 2 * dpL ns + 2
  | [], _, _ => by rw [ndL, okDs, deDs]; exact ⟨trivial, by omega⟩
  | n :: ns, hv, h => by
    have ih := ndN_ok n
    have ihl := ndL_ok ns
    rw [vaL] at hv; rw [nkL] at h
    have h1 := ih hv.1 h.1
    have h2 := ihl hv.2 h.2
    rw [ndL, okDs, deDs, dpL]
    exact ⟨⟨h1.1, h2.1⟩, by omega⟩
end
end K16
end

section
set_option Elab.async false
set_option linter.all false
set_option maxRecDepth 100000
set_option maxHeartbeats 4000000
set_option autoImplicit false
namespace K16
open PySem PySem.Spec PyProof.Rows L2 SX
open C8 (clsBody)
local macro_rules | `(tactic| walk_at "kA") => `(tactic| first | with_reducible refine wA_cons ?_ | fail)
local macro_rules | `(tactic| walk_at "kA") => `(tactic| first | with_reducible refine wA_nil ?_ | fail)
local macro_rules | `(tactic| walk_at "kT") => `(tactic| first | with_reducible refine wT_yes ?_ | fail)
local macro_rules | `(tactic| walk_at "kT") => `(tactic| first | with_reducible refine wT_not ?_ | fail)
local macro_rules | `(tactic| walk_at "kT") => `(tactic| first | with_reducible refine wT_or ?_ | fail)
local macro_rules | `(tactic| walk_at "kT") => `(tactic| first | with_reducible refine wT_and ?_ | fail)
local macro_rules | `(tactic| walk_at "kT") => `(tactic| first | with_reducible refine wT_B ?_ | fail)
local macro_rules | `(tactic| walk_at "kT") => `(tactic| first | with_reducible refine wT_test ?_ | fail)
local macro_rules | `(tactic| walk_at "kR") => `(tactic| first | refine wR_ixT (n := 4) rfl rfl ?_ | fail)
local macro_rules | `(tactic| walk_at "kR") => `(tactic| first | refine wR_ixT (n := 3) rfl rfl ?_ | fail)
local macro_rules | `(tactic| walk_at "kR") => `(tactic| first | refine wR_ixT (n := 2) rfl rfl ?_ | fail)
local macro_rules | `(tactic| walk_at "kR") => `(tactic| first | refine wR_ixT (n := 1) rfl rfl ?_ | fail)
local macro_rules | `(tactic| walk_at "kR") => `(tactic| first | refine wR_ixT (n := 0) rfl rfl ?_ | fail)
local macro_rules | `(tactic| walk_at "kR") => `(tactic| first | with_reducible refine wR_catT ?_ ?_ | fail)
local macro_rules | `(tactic| walk_at "kR") => `(tactic| first | with_reducible refine wR_addS ?_ ?_ | fail)
local macro_rules | `(tactic| walk_at "kR") => `(tactic| first | with_reducible refine wR_notInS ?_ | fail)
local macro_rules | `(tactic| walk_at "kR") => `(tactic| first | with_reducible refine wR_inS ?_ | fail)
local macro_rules | `(tactic| walk_at "kR") => `(tactic| first | with_reducible refine wR_neB ?_ | fail)
local macro_rules | `(tactic| walk_at "kR") => `(tactic| first | with_reducible refine wR_eqB ?_ | fail)
local macro_rules | `(tactic| walk_at "kR") => `(tactic| first | with_reducible refine wR_neI ?_ | fail)
local macro_rules | `(tactic| walk_at "kR") => `(tactic| first | with_reducible refine wR_neS ?_ | fail)
local macro_rules | `(tactic| walk_at "kR") => `(tactic| first | with_reducible refine wR_eqI ?_ | fail)
local macro_rules | `(tactic| walk_at "kR") => `(tactic| first | with_reducible refine wR_B0 ?_ | fail)
local macro_rules | `(tactic| walk_at "kR") => `(tactic| first | with_reducible refine wR_I0 ?_ | fail)
local macro_rules | `(tactic| walk_at "kR") => `(tactic| first | with_reducible refine wR_I ?_ ?_ | fail)
local macro_rules | `(tactic| walk_at "kR") => `(tactic| first | with_reducible refine wR_eqS ?_ | fail)
local macro_rules | `(tactic| walk_at "kI") => `(tactic| first | with_reducible refine wI_enum ?_ | fail)
local macro_rules | `(tactic| walk_at "kI") => `(tactic| first | with_reducible refine wI_zip ?_ | fail)
local macro_rules | `(tactic| walk_at "kI") => `(tactic| first | with_reducible refine wI_rng ?_ | fail)
local macro_rules | `(tactic| walk_at "kI") => `(tactic| first | with_reducible refine wI_str ?_ | fail)
local macro_rules | `(tactic| walk_at "kI") => `(tactic| first | with_reducible refine wI_tup ?_ | fail)
local macro_rules | `(tactic| walk_at "kI") => `(tactic| first | with_reducible refine wI_list ?_ | fail)
local macro_rules | `(tactic| walk_at "kG") => `(tactic| first | with_reducible refine wG_name ?_ | fail)
local macro_rules | `(tactic| walk_at "kO") => `(tactic| first | with_reducible refine wO_some ?_ | fail)
local macro_rules | `(tactic| walk_at "kO") => `(tactic| first | with_reducible refine wO_none ?_ | fail)
local macro_rules | `(tactic| walk_at "kC") => `(tactic| first | with_reducible refine wC_tuple ?_ | fail)
local macro_rules | `(tactic| walk_at "kC") => `(tactic| first | with_reducible refine wC_str ?_ ?_ | fail)
local macro_rules | `(tactic| walk_at "kC") => `(tactic| first | with_reducible refine wC_max2 ?_ | fail)
local macro_rules | `(tactic| walk_at "kC") => `(tactic| first | with_reducible refine wC_abs ?_ | fail)
local macro_rules | `(tactic| walk_at "kC") => `(tactic| first | with_reducible refine wC_intB ?_ | fail)
local macro_rules | `(tactic| walk_at "kC") => `(tactic| first | with_reducible refine wC_intI ?_ | fail)
local macro_rules | `(tactic| walk_at "kC") => `(tactic| first | ((with_reducible apply wC_isi); (· exact rfl); (· exact rfl)) | fail)
local macro_rules | `(tactic| walk_at "kC") => `(tactic| first | with_reducible refine wC_any ?_ | fail)
local macro_rules | `(tactic| walk_at "kC") => `(tactic| first | with_reducible refine wC_all ?_ | fail)
local macro_rules | `(tactic| walk_at "kC") => `(tactic| first | with_reducible refine wC_lenT ?_ | fail)
local macro_rules | `(tactic| walk_at "kC") => `(tactic| first | with_reducible refine wC_lenL ?_ | fail)
local macro_rules | `(tactic| walk_at "kC") => `(tactic| first | with_reducible refine wC_lenS ?_ ?_ | fail)
local macro_rules | `(tactic| walk_at "kL") => `(tactic| first | with_reducible refine wL_tup ?_ | fail)
local macro_rules | `(tactic| walk_at "kL") => `(tactic| first | with_reducible refine wL_str ?_ ?_ | fail)
local macro_rules | `(tactic| walk_at "kS") => `(tactic| first | with_reducible refine wS_for ?_ | fail)
local macro_rules | `(tactic| walk_at "kS") => `(tactic| first | with_reducible refine wS_drop ?_ | fail)
local macro_rules | `(tactic| walk_at "kS") => `(tactic| first | ((with_reducible apply wS_append); (· exact rfl)) | fail)
local macro_rules | `(tactic| walk_at "kS") => `(tactic| first | ((with_reducible apply wS_augI); (· exact rfl)) | fail)
local macro_rules | `(tactic| walk_at "kS") => `(tactic| first | with_reducible refine wS_asg ?_ | fail)
local macro_rules | `(tactic| walk_at "kS") => `(tactic| first | with_reducible refine wS_cont ?_ | fail)
local macro_rules | `(tactic| walk_at "kS") => `(tactic| first | with_reducible refine wS_brk ?_ | fail)
local macro_rules | `(tactic| walk_at "kS") => `(tactic| first | with_reducible refine wS_retN ?_ | fail)
local macro_rules | `(tactic| walk_at "kS") => `(tactic| first | with_reducible refine wS_next ?_ | fail)
local macro_rules | `(tactic| walk_at "kS") => `(tactic| first | with_reducible refine wS_ret ?_ | fail)
local macro_rules | `(tactic| walk_at "kS") => `(tactic| first | with_reducible refine wS_set ?_ | fail)
local macro_rules | `(tactic| walk_at "kSw") => `(tactic| first | with_reducible refine wS_if ?_ | fail)
local macro_rules | `(tactic| walk_at "kSw") => `(tactic| first | with_reducible refine wS_seq ?_ | fail)
local macro_rules | `(tactic| walk_at "kSw") => `(tactic| first | with_reducible refine wS_for ?_ | fail)
local macro_rules | `(tactic| walk_at "kSw") => `(tactic| first | with_reducible refine wS_drop ?_ | fail)
local macro_rules | `(tactic| walk_at "kSw") => `(tactic| first | ((with_reducible apply wS_append); (· exact rfl)) | fail)
local macro_rules | `(tactic| walk_at "kSw") => `(tactic| first | ((with_reducible apply wS_augI); (· exact rfl)) | fail)
local macro_rules | `(tactic| walk_at "kSw") => `(tactic| first | with_reducible refine wS_asg ?_ | fail)
local macro_rules | `(tactic| walk_at "kSw") => `(tactic| first | with_reducible refine wS_cont ?_ | fail)
local macro_rules | `(tactic| walk_at "kSw") => `(tactic| first | with_reducible refine wS_brk ?_ | fail)
local macro_rules | `(tactic| walk_at "kSw") => `(tactic| first | with_reducible refine wS_retN ?_ | fail)
local macro_rules | `(tactic| walk_at "kSw") => `(tactic| first | with_reducible refine wS_next ?_ | fail)
local macro_rules | `(tactic| walk_at "kSw") => `(tactic| first | with_reducible refine wS_ret ?_ | fail)
local macro_rules | `(tactic| walk_at "kSw") => `(tactic| first | with_reducible refine wS_set ?_ | fail)
local macro_rules | `(tactic| walk_at "kSy") => `(tactic| first | with_reducible refine wS_for ?_ | fail)
local macro_rules | `(tactic| walk_at "kSy") => `(tactic| first | with_reducible refine wS_drop ?_ | fail)
local macro_rules | `(tactic| walk_at "kSy") => `(tactic| first | ((with_reducible apply wS_append); (· exact rfl)) | fail)
local macro_rules | `(tactic| walk_at "kSy") => `(tactic| first | ((with_reducible apply wS_augI); (· exact rfl)) | fail)
local macro_rules | `(tactic| walk_at "kSy") => `(tactic| first | with_reducible refine wS_asg ?_ | fail)
local macro_rules | `(tactic| walk_at "kSy") => `(tactic| first | with_reducible refine wS_cont ?_ | fail)
local macro_rules | `(tactic| walk_at "kSy") => `(tactic| first | with_reducible refine wS_brk ?_ | fail)
local macro_rules | `(tactic| walk_at "kSy") => `(tactic| first | with_reducible refine wS_retN ?_ | fail)
local macro_rules | `(tactic| walk_at "kSy") => `(tactic| first | with_reducible refine wS_next ?_ | fail)
local macro_rules | `(tactic| walk_at "kSy") => `(tactic| first | with_reducible refine wS_ret ?_ | fail)
local macro_rules | `(tactic| walk_at "kSy") => `(tactic| first | with_reducible refine wS_set ?_ | fail)
local macro_rules | `(tactic| walk_at "kSy") => `(tactic| first | with_reducible refine wS_setOwn (wN_lst (wA_nil (len_and (Nat.zero_le _) ?_))) | fail)
local macro_rules | `(tactic| walk_at "kSv") => `(tactic| first | with_reducible refine wS_if ?_ | fail)
local macro_rules | `(tactic| walk_at "kSv") => `(tactic| first | with_reducible refine wS_seq ?_ | fail)
local macro_rules | `(tactic| walk_at "kSv") => `(tactic| first | with_reducible refine wS_for ?_ | fail)
local macro_rules | `(tactic| walk_at "kSv") => `(tactic| first | with_reducible refine wS_drop ?_ | fail)
local macro_rules | `(tactic| walk_at "kSv") => `(tactic| first | ((with_reducible apply wS_append); (· exact rfl)) | fail)
local macro_rules | `(tactic| walk_at "kSv") => `(tactic| first | ((with_reducible apply wS_augI); (· exact rfl)) | fail)
local macro_rules | `(tactic| walk_at "kSv") => `(tactic| first | with_reducible refine wS_asg ?_ | fail)
local macro_rules | `(tactic| walk_at "kSv") => `(tactic| first | with_reducible refine wS_cont ?_ | fail)
local macro_rules | `(tactic| walk_at "kSv") => `(tactic| first | with_reducible refine wS_brk ?_ | fail)
local macro_rules | `(tactic| walk_at "kSv") => `(tactic| first | with_reducible refine wS_retN ?_ | fail)
local macro_rules | `(tactic| walk_at "kSv") => `(tactic| first | with_reducible refine wS_next ?_ | fail)
local macro_rules | `(tactic| walk_at "kSv") => `(tactic| first | with_reducible refine wS_ret ?_ | fail)
local macro_rules | `(tactic| walk_at "kSv") => `(tactic| first | with_reducible refine wS_set ?_ | fail)
local macro_rules | `(tactic| walk_at "kSv") => `(tactic| first | with_reducible refine wS_setOwn (wN_lst (wA_nil (len_and (Nat.zero_le _) ?_))) | fail)
local macro_rules | `(tactic| walk_at "kE") => `(tactic| first | with_reducible refine wE_me ?_ | fail)
local macro_rules | `(tactic| walk_at "kE") => `(tactic| first | with_reducible refine wE_fn ?_ | fail)
local macro_rules | `(tactic| walk_at "kE") => `(tactic| first | with_reducible refine wE_fnX ?_ | fail)
local macro_rules | `(tactic| walk_at "kE") => `(tactic| first | with_reducible refine wE_fnS ?_ | fail)
local macro_rules | `(tactic| walk_at "kE") => `(tactic| first | with_reducible refine wE_newO ?_ | fail)
local macro_rules | `(tactic| walk_at "kE") => `(tactic| first | with_reducible refine wE_sl ?_ | fail)
local macro_rules | `(tactic| walk_at "kE") => `(tactic| first | with_reducible refine wE_even ?_ | fail)
local macro_rules | `(tactic| walk_at "kE") => `(tactic| first | with_reducible refine wE_dget ?_ | fail)
local macro_rules | `(tactic| walk_at "kE") => `(tactic| first | with_reducible refine wE_dget2 ?_ | fail)
local macro_rules | `(tactic| walk_at "kE") => `(tactic| first | with_reducible refine wE_repl ?_ | fail)
local macro_rules | `(tactic| walk_at "kE") => `(tactic| first | with_reducible refine wE_lstrip ?_ | fail)
local macro_rules | `(tactic| walk_at "kE") => `(tactic| first | with_reducible refine wE_find3 ?_ | fail)
local macro_rules | `(tactic| walk_at "kE") => `(tactic| first | with_reducible refine wE_find ?_ | fail)
local macro_rules | `(tactic| walk_at "kE") => `(tactic| first | with_reducible refine wE_join ?_ | fail)
local macro_rules | `(tactic| walk_at "kE") => `(tactic| first | with_reducible refine wE_cb ?_ | fail)
local macro_rules | `(tactic| walk_at "kE") => `(tactic| first | with_reducible refine wE_isiT ?_ | fail)
local macro_rules | `(tactic| walk_at "kE") => `(tactic| first | with_reducible refine wE_chain ?_ | fail)
local macro_rules | `(tactic| walk_at "kE") => `(tactic| first | with_reducible refine wE_neg ?_ | fail)
local macro_rules | `(tactic| walk_at "kE") => `(tactic| first | with_reducible refine wE_notV ?_ | fail)
local macro_rules | `(tactic| walk_at "kE") => `(tactic| first | with_reducible refine wE_orV ?_ | fail)
local macro_rules | `(tactic| walk_at "kE") => `(tactic| first | with_reducible refine wE_andV ?_ | fail)
local macro_rules | `(tactic| walk_at "kE") => `(tactic| first | with_reducible refine wE_if ?_ | fail)
local macro_rules | `(tactic| walk_at "kE") => `(tactic| first | with_reducible refine wE_lst ?_ | fail)
local macro_rules | `(tactic| walk_at "kE") => `(tactic| first | with_reducible refine wE_tup ?_ | fail)
local macro_rules | `(tactic| walk_at "kE") => `(tactic| first | with_reducible refine wE_ty ?_ | fail)
local macro_rules | `(tactic| walk_at "kE") => `(tactic| first | with_reducible refine wE_bl ?_ | fail)
local macro_rules | `(tactic| walk_at "kE") => `(tactic| first | with_reducible refine wE_non ?_ | fail)
local macro_rules | `(tactic| walk_at "kE") => `(tactic| first | with_reducible refine wE_str ?_ | fail)
local macro_rules | `(tactic| walk_at "kE") => `(tactic| first | with_reducible refine wE_strS ?_ | fail)
local macro_rules | `(tactic| walk_at "kE") => `(tactic| first | with_reducible refine wE_int ?_ | fail)
local macro_rules | `(tactic| walk_at "kE") => `(tactic| first | with_reducible refine wE_op ?_ | fail)
local macro_rules | `(tactic| walk_at "kE") => `(tactic| first | ((with_reducible apply wE_spot); (· exact rfl); (· exact rfl)) | fail)
local macro_rules | `(tactic| walk_at "kE") => `(tactic| first | ((with_reducible apply wE_var); (· exact rfl)) | fail)
local macro_rules | `(tactic| walk_at "kEy") => `(tactic| first | with_reducible refine wE_me ?_ | fail)
local macro_rules | `(tactic| walk_at "kEy") => `(tactic| first | with_reducible refine wE_fn ?_ | fail)
local macro_rules | `(tactic| walk_at "kEy") => `(tactic| first | with_reducible refine wE_fnX ?_ | fail)
local macro_rules | `(tactic| walk_at "kEy") => `(tactic| first | with_reducible refine wE_fnS ?_ | fail)
local macro_rules | `(tactic| walk_at "kEy") => `(tactic| first | with_reducible refine wE_newO ?_ | fail)
local macro_rules | `(tactic| walk_at "kEy") => `(tactic| first | with_reducible refine wE_sl ?_ | fail)
local macro_rules | `(tactic| walk_at "kEy") => `(tactic| first | with_reducible refine wE_even ?_ | fail)
local macro_rules | `(tactic| walk_at "kEy") => `(tactic| first | with_reducible refine wE_dget ?_ | fail)
local macro_rules | `(tactic| walk_at "kEy") => `(tactic| first | with_reducible refine wE_dget2 ?_ | fail)
local macro_rules | `(tactic| walk_at "kEy") => `(tactic| first | with_reducible refine wE_repl ?_ | fail)
local macro_rules | `(tactic| walk_at "kEy") => `(tactic| first | with_reducible refine wE_lstrip ?_ | fail)
local macro_rules | `(tactic| walk_at "kEy") => `(tactic| first | with_reducible refine wE_find3 ?_ | fail)
local macro_rules | `(tactic| walk_at "kEy") => `(tactic| first | with_reducible refine wE_find ?_ | fail)
local macro_rules | `(tactic| walk_at "kEy") => `(tactic| first | with_reducible refine wE_join ?_ | fail)
local macro_rules | `(tactic| walk_at "kEy") => `(tactic| first | with_reducible refine wE_cb ?_ | fail)
local macro_rules | `(tactic| walk_at "kEy") => `(tactic| first | with_reducible refine wE_isiT ?_ | fail)
local macro_rules | `(tactic| walk_at "kEy") => `(tactic| first | with_reducible refine wE_chain ?_ | fail)
local macro_rules | `(tactic| walk_at "kEy") => `(tactic| first | with_reducible refine wE_neg ?_ | fail)
local macro_rules | `(tactic| walk_at "kEy") => `(tactic| first | with_reducible refine wE_notV ?_ | fail)
local macro_rules | `(tactic| walk_at "kEy") => `(tactic| first | with_reducible refine wE_orV ?_ | fail)
local macro_rules | `(tactic| walk_at "kEy") => `(tactic| first | with_reducible refine wE_andV ?_ | fail)
local macro_rules | `(tactic| walk_at "kEy") => `(tactic| first | with_reducible refine wE_if ?_ | fail)
local macro_rules | `(tactic| walk_at "kEy") => `(tactic| first | with_reducible refine wE_lst ?_ | fail)
local macro_rules | `(tactic| walk_at "kEy") => `(tactic| first | with_reducible refine wE_tup ?_ | fail)
local macro_rules | `(tactic| walk_at "kEy") => `(tactic| first | with_reducible refine wE_ty ?_ | fail)
local macro_rules | `(tactic| walk_at "kEy") => `(tactic| first | with_reducible refine wE_bl ?_ | fail)
local macro_rules | `(tactic| walk_at "kEy") => `(tactic| first | with_reducible refine wE_non ?_ | fail)
local macro_rules | `(tactic| walk_at "kEy") => `(tactic| first | with_reducible refine wE_str ?_ | fail)
local macro_rules | `(tactic| walk_at "kEy") => `(tactic| first | with_reducible refine wE_strS ?_ | fail)
local macro_rules | `(tactic| walk_at "kEy") => `(tactic| first | with_reducible refine wE_int ?_ | fail)
local macro_rules | `(tactic| walk_at "kEy") => `(tactic| first | with_reducible refine wE_op ?_ | fail)
local macro_rules | `(tactic| walk_at "kEy") => `(tactic| first | ((with_reducible apply wE_spot); (· exact rfl); (· exact rfl)) | fail)
local macro_rules | `(tactic| walk_at "kEy") => `(tactic| first | ((with_reducible apply wE_var); (· exact rfl)) | fail)
local macro_rules | `(tactic| walk_at "kEy") => `(tactic| first | with_reducible refine wE_new (wN_cat ?_) | fail)
local macro_rules | `(tactic| walk_at "kNy") => `(tactic| first | with_reducible refine wN_cat ?_ | fail)
local macro_rules | `(tactic| walk_at "kZ") => `(tactic| first | dsimp only | fail)
local macro_rules | `(tactic| walk_at "kZ") => `(tactic| first | ((with_reducible refine (show (0 : Int) < _ from ?_)); (· decide)) | fail)
local macro_rules | `(tactic| walk_at "kZ") => `(tactic| first | ((with_reducible refine cmul_r ?_ ?_) <;> (· decide)) | fail)
local macro_rules | `(tactic| walk_at "kZ") => `(tactic| first | ((with_reducible refine cmul_l ?_ ?_) <;> (· decide)) | fail)
local macro_rules | `(tactic| walk_at "kZ") => `(tactic| first | ((with_reducible refine cdiv_c ?_ ?_) <;> (· decide)) | fail)
local macro_rules | `(tactic| walk_at "kZ") => `(tactic| first | refine ite_f ?_ | fail)
local macro_rules | `(tactic| walk_at "kZ") => `(tactic| first | refine ite_t ?_ | fail)
local macro_rules | `(tactic| walk_at "kZ") => `(tactic| first | with_reducible refine ⟨_, _, rfl, ?_⟩ | fail)
local macro_rules | `(tactic| walk_at "kZ") => `(tactic| first | with_reducible refine int_and ?_ | fail)
local macro_rules | `(tactic| walk_at "kZ") => `(tactic| first | with_reducible refine way_and ?_ | fail)
local macro_rules | `(tactic| walk_at "kZ") => `(tactic| first | with_reducible refine ⟨_, rfl, ?_⟩ | fail)
local macro_rules | `(tactic| walk_at "kZy") => `(tactic| first | dsimp only | fail)
local macro_rules | `(tactic| walk_at "kZy") => `(tactic| first | ((with_reducible refine len_and ?h ?_); (case h => (simp; done))) | fail)
local macro_rules | `(tactic| walk_at "kZy") => `(tactic| first | ((with_reducible refine (show (0 : Int) < _ from ?_)); (· decide)) | fail)
local macro_rules | `(tactic| walk_at "kZy") => `(tactic| first | ((with_reducible refine cmul_r ?_ ?_) <;> (· decide)) | fail)
local macro_rules | `(tactic| walk_at "kZy") => `(tactic| first | ((with_reducible refine cmul_l ?_ ?_) <;> (· decide)) | fail)
local macro_rules | `(tactic| walk_at "kZy") => `(tactic| first | ((with_reducible refine cdiv_c ?_ ?_) <;> (· decide)) | fail)
local macro_rules | `(tactic| walk_at "kZy") => `(tactic| first | refine ite_f ?_ | fail)
local macro_rules | `(tactic| walk_at "kZy") => `(tactic| first | refine ite_t ?_ | fail)
local macro_rules | `(tactic| walk_at "kZy") => `(tactic| first | with_reducible refine ⟨_, _, rfl, ?_⟩ | fail)
local macro_rules | `(tactic| walk_at "kZy") => `(tactic| first | with_reducible refine int_and ?_ | fail)
local macro_rules | `(tactic| walk_at "kZy") => `(tactic| first | with_reducible refine way_and ?_ | fail)
local macro_rules | `(tactic| walk_at "kZy") => `(tactic| first | with_reducible refine ⟨_, rfl, ?_⟩ | fail)
local macro_rules | `(tactic| walk_at "x") => `(tactic| first | walk_at "kZ" | fail)
local macro_rules | `(tactic| walk_at "x") => `(tactic| first | ((with_reducible show wL _ _ _ _ _ _); walk_at "kL") | fail)
local macro_rules | `(tactic| walk_at "x") => `(tactic| first | ((with_reducible show wC _ _ _ _); walk_at "kC") | fail)
local macro_rules | `(tactic| walk_at "x") => `(tactic| first | ((with_reducible show wO _ _ _ _); walk_at "kO") | fail)
local macro_rules | `(tactic| walk_at "x") => `(tactic| first | ((with_reducible show wG _ _ _ _ _); walk_at "kG") | fail)
local macro_rules | `(tactic| walk_at "x") => `(tactic| first | ((with_reducible show wI _ _ _ _); walk_at "kI") | fail)
local macro_rules | `(tactic| walk_at "x") => `(tactic| first | ((with_reducible show wR _ _ _ _ _); walk_at "kR") | fail)
local macro_rules | `(tactic| walk_at "x") => `(tactic| first | ((with_reducible show wT _ _ _ _); walk_at "kT") | fail)
local macro_rules | `(tactic| walk_at "x") => `(tactic| first | ((with_reducible show wS _ _ _ _); walk_at "kS") | fail)
local macro_rules | `(tactic| walk_at "x") => `(tactic| first | ((with_reducible show wA _ _ _ _); walk_at "kA") | fail)
local macro_rules | `(tactic| walk_at "x") => `(tactic| first | ((with_reducible show wE _ _ _ _); walk_at "kE") | fail)
local macro_rules | `(tactic| walk_at "w") => `(tactic| first | walk_at "kZ" | fail)
local macro_rules | `(tactic| walk_at "w") => `(tactic| first | ((with_reducible show wL _ _ _ _ _ _); walk_at "kL") | fail)
local macro_rules | `(tactic| walk_at "w") => `(tactic| first | ((with_reducible show wC _ _ _ _); walk_at "kC") | fail)
local macro_rules | `(tactic| walk_at "w") => `(tactic| first | ((with_reducible show wO _ _ _ _); walk_at "kO") | fail)
local macro_rules | `(tactic| walk_at "w") => `(tactic| first | ((with_reducible show wG _ _ _ _ _); walk_at "kG") | fail)
local macro_rules | `(tactic| walk_at "w") => `(tactic| first | ((with_reducible show wI _ _ _ _); walk_at "kI") | fail)
local macro_rules | `(tactic| walk_at "w") => `(tactic| first | ((with_reducible show wR _ _ _ _ _); walk_at "kR") | fail)
local macro_rules | `(tactic| walk_at "w") => `(tactic| first | ((with_reducible show wT _ _ _ _); walk_at "kT") | fail)
local macro_rules | `(tactic| walk_at "w") => `(tactic| first | ((with_reducible show wS _ _ _ _); walk_at "kSw") | fail)
local macro_rules | `(tactic| walk_at "w") => `(tactic| first | ((with_reducible show wA _ _ _ _); walk_at "kA") | fail)
local macro_rules | `(tactic| walk_at "w") => `(tactic| first | ((with_reducible show wE _ _ _ _); walk_at "kE") | fail)
local macro_rules | `(tactic| walk_at "y") => `(tactic| first | walk_at "kZy" | fail)
local macro_rules | `(tactic| walk_at "y") => `(tactic| first | ((with_reducible show wN _ _ _ _); walk_at "kNy") | fail)
local macro_rules | `(tactic| walk_at "y") => `(tactic| first | ((with_reducible show wL _ _ _ _ _ _); walk_at "kL") | fail)
local macro_rules | `(tactic| walk_at "y") => `(tactic| first | ((with_reducible show wC _ _ _ _); walk_at "kC") | fail)
local macro_rules | `(tactic| walk_at "y") => `(tactic| first | ((with_reducible show wO _ _ _ _); walk_at "kO") | fail)
local macro_rules | `(tactic| walk_at "y") => `(tactic| first | ((with_reducible show wG _ _ _ _ _); walk_at "kG") | fail)
local macro_rules | `(tactic| walk_at "y") => `(tactic| first | ((with_reducible show wI _ _ _ _); walk_at "kI") | fail)
local macro_rules | `(tactic| walk_at "y") => `(tactic| first | ((with_reducible show wR _ _ _ _ _); walk_at "kR") | fail)
local macro_rules | `(tactic| walk_at "y") => `(tactic| first | ((with_reducible show wT _ _ _ _); walk_at "kT") | fail)
local macro_rules | `(tactic| walk_at "y") => `(tactic| first | ((with_reducible show wS _ _ _ _); walk_at "kSy") | fail)
local macro_rules | `(tactic| walk_at "y") => `(tactic| first | ((with_reducible show wA _ _ _ _); walk_at "kA") | fail)
local macro_rules | `(tactic| walk_at "y") => `(tactic| first | ((with_reducible show wE _ _ _ _); walk_at "kEy") | fail)
local macro_rules | `(tactic| walk_at "v") => `(tactic| first | walk_at "kZy" | fail)
local macro_rules | `(tactic| walk_at "v") => `(tactic| first | ((with_reducible show wN _ _ _ _); walk_at "kNy") | fail)
local macro_rules | `(tactic| walk_at "v") => `(tactic| first | ((with_reducible show wL _ _ _ _ _ _); walk_at "kL") | fail)
local macro_rules | `(tactic| walk_at "v") => `(tactic| first | ((with_reducible show wC _ _ _ _); walk_at "kC") | fail)
local macro_rules | `(tactic| walk_at "v") => `(tactic| first | ((with_reducible show wO _ _ _ _); walk_at "kO") | fail)
local macro_rules | `(tactic| walk_at "v") => `(tactic| first | ((with_reducible show wG _ _ _ _ _); walk_at "kG") | fail)
local macro_rules | `(tactic| walk_at "v") => `(tactic| first | ((with_reducible show wI _ _ _ _); walk_at "kI") | fail)
local macro_rules | `(tactic| walk_at "v") => `(tactic| first | ((with_reducible show wR _ _ _ _ _); walk_at "kR") | fail)
local macro_rules | `(tactic| walk_at "v") => `(tactic| first | ((with_reducible show wT _ _ _ _); walk_at "kT") | fail)
local macro_rules | `(tactic| walk_at "v") => `(tactic| first | ((with_reducible show wS _ _ _ _); walk_at "kSv") | fail)
local macro_rules | `(tactic| walk_at "v") => `(tactic| first | ((with_reducible show wA _ _ _ _); walk_at "kA") | fail)
local macro_rules | `(tactic| walk_at "v") => `(tactic| first | ((with_reducible show wE _ _ _ _); walk_at "kEy") | fail)

/-! W1: the program's small defs, walked. -/
abbrev s_is_text : Stmt := top 5
abbrev N_is_text : List Str := ["thing", "most", "sign"]
theorem sc_is_text : FnScope N_is_text ["thing", "most"] (defScope s_is_text) := ⟨rfl, rfl, rfl, by decide +kernel, rfl, by decide +kernel, by decide +kernel⟩
abbrev s_without : Stmt := top 6
abbrev N_without : List Str := ["some", "sign"]
theorem sc_without : FnScope N_without ["some"] (defScope s_without) := ⟨rfl, rfl, rfl, by decide +kernel, rfl, by decide +kernel, by decide +kernel⟩
abbrev s_is_whole : Stmt := top 7
abbrev N_is_whole : List Str := ["thing"]
theorem sc_is_whole : FnScope N_is_whole ["thing"] (defScope s_is_whole) := ⟨rfl, rfl, rfl, by decide +kernel, rfl, by decide +kernel, by decide +kernel⟩
abbrev s_is_number : Stmt := top 15
abbrev N_is_number : List Str := ["thing"]
theorem sc_is_number : FnScope N_is_number ["thing"] (defScope s_is_number) := ⟨rfl, rfl, rfl, by decide +kernel, rfl, by decide +kernel, by decide +kernel⟩
abbrev s_united : Stmt := top 28
abbrev N_united : List Str := ["one", "other", "sign"]
theorem sc_united : FnScope N_united ["one", "other"] (defScope s_united) := ⟨rfl, rfl, rfl, by decide +kernel, rfl, by decide +kernel, by decide +kernel⟩
abbrev s_have_common : Stmt := top 38
abbrev N_have_common : List Str := ["one", "other", "sign"]
theorem sc_have_common : FnScope N_have_common ["one", "other"] (defScope s_have_common) := ⟨rfl, rfl, rfl, by decide +kernel, rfl, by decide +kernel, by decide +kernel⟩
def cIsText : CtA (T × Int) := { args := fun a => [.str a.1, .int a.2], pre := fun a => a.1.length ≤ 16777216, post := fun a d => d = .bl (decide ((a.1.length : Int) ≤ a.2) && allSG a.1) }
def cWithout : CtA T := { args := fun a => [.str a], post := fun a d => d = .str (withoutL a) }
def cIsWhole : CtA Int := { args := fun a => [.int a], post := fun a d => d = .bl true }
def cIsNumber : CtA Int := { args := fun a => [.int a], post := fun a d => d = .bl (decide (-(10 : Int) ^ 30 < a) && decide (a < (10 : Int) ^ 30)) }
def cUnited : CtA (T × T) := { args := fun a => [.str a.1, .str a.2], post := fun a d => d = .str (united a.1 a.2) }
def cCommon : CtA (T × T) := { args := fun a => [.str a.1, .str a.2], pre := fun a => a.1.length ≤ 16777216, post := fun a d => d = .bl (common a.1 a.2) }
section
variable {P : Program} {w : World} {K : PySem.W.Frag} {mg : Str → Option Value} {base : Heap} {f : Addr} {fd : FuncData} {wc : Way → Addr} {nf : Addr} {k : Nat}
theorem ok_is_text (fx : Fx K mg wc nf) (F : FnP K "is_text" "is_text" s_is_text f fd) : FnOk P w K mg base (L2.CX P w) (k + 1) f fd ["thing", "most"] (spA K wc nf cIsText) := by
  refine F.ok sc_is_text (spA_len fun a _ => rfl) fun cdv A outer s H vs Q E hr h => ?_
  obtain ⟨⟨t, m⟩, pre, go⟩ := pure_A (N := N_is_text) (fun a _ => by simp [cIsText]) h
  refine ⟨_, (pss_cons (ps_if (PW.pt (pw_or (pt_not (pt_val (pe_callB call_isi (by rfl) fx.b_isinstance bb_isinstance (pa_cons (pv 0) (pa_cons (pe_bltn (v := .ty "str") rfl fx.b_str bb_str rfl) pa_nil))))) (pw_or1 (pt_cmpR op_gt (pe_callB call_len_str (by rfl) fx.b_len bb_len (pa_cons (pv 0) pa_nil)) (pv 1) (nomark _)))))
  (pss_one (ps_ret pe_bl))
  pss_nil)
  (pss_one (ps_ret (pe_callB (cr_all (by rfl)) (by rfl) fx.b_all bb_all (pa_cons (pe_lc (own := [("sign", 2)]) (by rfl) sc_is_text.nd (pi_str (pv 0)) (blkOk_by (own := [("sign", 2)]) (N := N_is_text) (sc := defScope s_is_text) (by decide +kernel)) (fun _ _ _ _ _ => (pg_name (i := 2) sc_is_text.nd rfl (Or.inl rfl))) (fun _ _ _ _ _ => pts_nil) (fun _ _ _ _ _ => (pe_cmpR op_in_sign (pv 2) (C8.pe_gc rfl fx.gSIGNS) rfl))) pa_nil))))), go _ (?_ : wS _ _ ⟨[some (.val (.str t)), some (.val (.int m)), none], none, 0⟩ _)⟩
  try dsimp only [L2.cxOf]
  have pre : t.length ≤ 16777216 := pre
  repeat' walk_at "w"
  · exact pre
  refine ite_b (fun hb => ?_) fun hb => ?_
  · repeat' walk_at "w"
    have : ¬ (t.length : Int) ≤ m := by simpa using hb
    simp [cIsText, this]
  · repeat' walk_at "w"
    have : (t.length : Int) ≤ m := by simpa using hb
    refine wE_lcM (gw_name (by simp)) ?_
    repeat' walk_at "w"
    refine ⟨(t.map fun c => decide (c ∈ SG)).map D.bl, by simpa using pre, by simp, fun i d hd => ?_, ?_⟩
    · obtain ⟨c, hc, rfl⟩ := sgs_get hd
      repeat' walk_at "w"
      refine ⟨?_, rfl⟩
      rw [bls_get hc, sg_cps]
    · repeat' walk_at "w"
      simp [cIsText, this, allSG, List.all_map, Function.comp_def]
theorem ok_without (fx : Fx K mg wc nf) (F : FnP K "without" "without" s_without f fd) : FnOk P w K mg base (L2.CX P w) (k + 1) f fd ["some"] (spA K wc nf cWithout) := by
  refine F.ok sc_without (spA_len fun a _ => rfl) fun cdv A outer s H vs Q E hr h => ?_
  obtain ⟨t, pre, go⟩ := pure_A (N := N_without) (fun a _ => by simp [cWithout]) h
  refine ⟨_, (pss_one (ps_ret (pe_join pe_str (pe_lc (own := [("sign", 1)]) (by rfl) sc_without.nd (pi_str (C8.pe_gc rfl fx.gSIGNS)) (blkOk_by (own := [("sign", 1)]) (N := N_without) (sc := defScope s_without) (by decide +kernel)) (fun _ _ _ _ _ => (pg_name (i := 1) sc_without.nd rfl (Or.inl rfl))) (fun _ _ _ _ _ => (pts_one (pt_cmpR op_notIn_sign (pv 1) (pv 0) rfl))) (fun _ _ _ _ _ => (pv 1)))))), go _ (?_ : wS _ _ ⟨[some (.val (.str t)), none], none, 0⟩ _)⟩
  try dsimp only [L2.cxOf]
  repeat' walk_at "w"
  refine wE_lcF (sgB fun c => !decide (c ∈ t)) (gw_name (by simp)) ?_
  repeat' walk_at "w"
  rw [sg_cps]
  refine ⟨by decide, fun i d hd => ?_, ?_⟩
  · obtain ⟨c, hc, rfl⟩ := sgs_get hd
    repeat' walk_at "w"
    refine ⟨rfl, rfl, fun _ => ?_⟩
    repeat' walk_at "w"
    exact ⟨rfl, rfl⟩
  · rw [sgs_filterB, cps_nil]
    refine ⟨_, rfl, filt_le, ?_⟩
    rw [join_signs]
    exact rfl
theorem ok_is_whole (fx : Fx K mg wc nf) (F : FnP K "is_whole" "is_whole" s_is_whole f fd) : FnOk P w K mg base (L2.CX P w) (k + 1) f fd ["thing"] (spA K wc nf cIsWhole) := by
  refine F.ok sc_is_whole (spA_len fun a _ => rfl) fun cdv A outer s H vs Q E hr h => ?_
  obtain ⟨t, pre, go⟩ := pure_A (N := N_is_whole) (fun a _ => by simp [cIsWhole]) h
  refine ⟨_, (pss_one (ps_ret (pe_and (pe_callB call_isi (by rfl) fx.b_isinstance bb_isinstance (pa_cons (pv 0) (pa_cons (pe_bltn (v := .ty "int") rfl fx.b_int bb_int rfl) pa_nil))) (pe_one (pe_not (pe_callB call_isi (by rfl) fx.b_isinstance bb_isinstance (pa_cons (pv 0) (pa_cons (pe_bltn (v := .ty "bool") rfl fx.b_bool bb_bool rfl) pa_nil)))))))), go _ (?_ : wS _ _ ⟨[some (.val (.int t))], none, 0⟩ _)⟩
  try dsimp only [L2.cxOf]
  repeat' walk_at "w"
  exact rfl
theorem ok_is_number (fx : Fx K mg wc nf) (F : FnP K "is_number" "is_number" s_is_number f fd) (G : Fn P w K mg base "is_whole" ["thing"] k (spA K wc nf cIsWhole)) : FnOk P w K mg base (L2.CX P w) (k + 1) f fd ["thing"] (spA K wc nf cIsNumber) := by
  refine F.ok sc_is_number (spA_len fun a _ => rfl) fun cdv A outer s H vs Q E hr h => ?_
  obtain ⟨t, pre, go⟩ := pure_A (N := N_is_number) (fun a _ => by simp [cIsNumber]) h
  refine ⟨_, (pss_one (ps_ret (pe_and (pe_fn G hr (by omega) rfl passL (pa_cons (pv 0) pa_nil)) (pe_one (pe_chain op_lt op_lt (pe_op op_sub pe_int (pe_op op_pow pe_int pe_int)) (pv 0) (pe_op op_pow pe_int pe_int)))))), go _ (?_ : wS _ _ ⟨[some (.val (.int t))], none, 0⟩ _)⟩
  try dsimp only [L2.cxOf]
  repeat' walk_at "w"
  refine ⟨t, trivial, rfl, fun d hd => ?_, fun _ => id⟩
  rw [hd]
  repeat' walk_at "w"
  · exact ⟨by decide, by decide, by decide⟩
  refine ite_b (fun hb => ?_) fun hb => ?_
  · repeat' walk_at "w"
    · exact ⟨by decide, by decide, by decide⟩
    have : -(10 : Int) ^ 30 < t := by simpa using hb
    simp [cIsNumber]
    omega
  · have : ¬ -(10 : Int) ^ 30 < t := by simpa using hb
    simp [cIsNumber]
    omega
theorem ok_united (fx : Fx K mg wc nf) (F : FnP K "united" "united" s_united f fd) : FnOk P w K mg base (L2.CX P w) (k + 1) f fd ["one", "other"] (spA K wc nf cUnited) := by
  refine F.ok sc_united (spA_len fun a _ => rfl) fun cdv A outer s H vs Q E hr h => ?_
  obtain ⟨⟨t, u⟩, pre, go⟩ := pure_A (N := N_united) (fun a _ => by simp [cUnited]) h
  refine ⟨_, (pss_one (ps_ret (pe_join pe_str (pe_lc (own := [("sign", 2)]) (by rfl) sc_united.nd (pi_str (C8.pe_gc rfl fx.gSIGNS)) (blkOk_by (own := [("sign", 2)]) (N := N_united) (sc := defScope s_united) (by decide +kernel)) (fun _ _ _ _ _ => (pg_name (i := 2) sc_united.nd rfl (Or.inl rfl))) (fun _ _ _ _ _ => (pts_one (PW.pt (pw_or (pt_cmpR op_in_sign (pv 2) (pv 0) rfl) (pw_or1 (pt_cmpR op_in_sign (pv 2) (pv 1) rfl)))))) (fun _ _ _ _ _ => (pv 2)))))), go _ (?_ : wS _ _ ⟨[some (.val (.str t)), some (.val (.str u)), none], none, 0⟩ _)⟩
  try dsimp only [L2.cxOf]
  repeat' walk_at "w"
  refine wE_lcF (sgB fun c => decide (c ∈ t) || decide (c ∈ u)) (gw_name (by simp)) ?_
  repeat' walk_at "w"
  rw [sg_cps]
  refine ⟨by decide, fun i d hd => ?_, ?_⟩
  · obtain ⟨c, hc, rfl⟩ := sgs_get hd
    repeat' walk_at "w"
    have e : sgB (fun c => decide (c ∈ t) || decide (c ∈ u)) (.str [c]) = (decide (c ∈ t) || decide (c ∈ u)) := rfl
    refine ite_b (fun hb => ⟨by rw [e, hb]; rfl, rfl, fun _ => ?_⟩) fun hb => ?_
    · repeat' walk_at "w"
      exact ⟨rfl, rfl⟩
    · repeat' walk_at "w"
      refine ⟨by rw [e, hb]; rfl, rfl, fun _ => ?_⟩
      repeat' walk_at "w"
      exact ⟨rfl, rfl⟩
  · rw [sgs_filterB, cps_nil]
    refine ⟨_, rfl, filt_le, ?_⟩
    rw [join_signs]
    exact rfl
theorem ok_have_common (fx : Fx K mg wc nf) (F : FnP K "have_common" "have_common" s_have_common f fd) : FnOk P w K mg base (L2.CX P w) (k + 1) f fd ["one", "other"] (spA K wc nf cCommon) := by
  refine F.ok sc_have_common (spA_len fun a _ => rfl) fun cdv A outer s H vs Q E hr h => ?_
  obtain ⟨⟨t, u⟩, pre, go⟩ := pure_A (N := N_have_common) (fun a _ => by simp [cCommon]) h
  refine ⟨_, (pss_one (ps_ret (pe_callB (cr_any (by rfl)) (by rfl) fx.b_any bb_any (pa_cons (pe_lc (own := [("sign", 2)]) (by rfl) sc_have_common.nd (pi_str (pv 0)) (blkOk_by (own := [("sign", 2)]) (N := N_have_common) (sc := defScope s_have_common) (by decide +kernel)) (fun _ _ _ _ _ => (pg_name (i := 2) sc_have_common.nd rfl (Or.inl rfl))) (fun _ _ _ _ _ => pts_nil) (fun _ _ _ _ _ => (pe_cmpR op_in_sign (pv 2) (pv 1) rfl))) pa_nil)))), go _ (?_ : wS _ _ ⟨[some (.val (.str t)), some (.val (.str u)), none], none, 0⟩ _)⟩
  try dsimp only [L2.cxOf]
  have pre : t.length ≤ 16777216 := pre
  repeat' walk_at "w"
  refine wE_lcM (gw_name (by simp)) ?_
  repeat' walk_at "w"
  refine ⟨(t.map fun c => decide (c ∈ u)).map D.bl, by simpa using pre, by simp, fun i d hd => ?_, ?_⟩
  · obtain ⟨c, hc, rfl⟩ := sgs_get hd
    repeat' walk_at "w"
    exact ⟨bls_get hc, rfl⟩
  · repeat' walk_at "w"
    simp [cCommon, common, List.any_map, Function.comp_def]
end

/-! W2: the ways' defs, walked. -/
abbrev s_Way_fits : Stmt := (clsBody (top 19)).getD 0 (.Pass ⟨0, 0, 0, 0⟩)
abbrev N_Way_fits : List Str := ["self", "value"]
theorem sc_Way_fits : FnScope N_Way_fits ["self", "value"] (defScope s_Way_fits) := ⟨rfl, rfl, rfl, by decide +kernel, rfl, by decide +kernel, by decide +kernel⟩
abbrev s_Way_coded : Stmt := (clsBody (top 19)).getD 2 (.Pass ⟨0, 0, 0, 0⟩)
abbrev N_Way_coded : List Str := ["self", "value"]
theorem sc_Way_coded : FnScope N_Way_coded ["self", "value"] (defScope s_Way_coded) := ⟨rfl, rfl, rfl, by decide +kernel, rfl, by decide +kernel, by decide +kernel⟩
abbrev s_Way_marked : Stmt := (clsBody (top 19)).getD 1 (.Pass ⟨0, 0, 0, 0⟩)
abbrev N_Way_marked : List Str := ["self", "value"]
theorem sc_Way_marked : FnScope N_Way_marked ["self", "value"] (defScope s_Way_marked) := ⟨rfl, rfl, rfl, by decide +kernel, rfl, by decide +kernel, by decide +kernel⟩
abbrev s_Way_behind : Stmt := (clsBody (top 19)).getD 3 (.Pass ⟨0, 0, 0, 0⟩)
abbrev N_Way_behind : List Str := ["self", "text", "at", "ends"]
theorem sc_Way_behind : FnScope N_Way_behind ["self", "text", "at"] (defScope s_Way_behind) := ⟨rfl, rfl, rfl, by decide +kernel, rfl, by decide +kernel, by decide +kernel⟩
abbrev s_Way_meant : Stmt := (clsBody (top 19)).getD 4 (.Pass ⟨0, 0, 0, 0⟩)
abbrev N_Way_meant : List Str := ["self", "stretch"]
theorem sc_Way_meant : FnScope N_Way_meant ["self", "stretch"] (defScope s_Way_meant) := ⟨rfl, rfl, rfl, by decide +kernel, rfl, by decide +kernel, by decide +kernel⟩
abbrev s_Way_read : Stmt := (clsBody (top 19)).getD 5 (.Pass ⟨0, 0, 0, 0⟩)
abbrev N_Way_read : List Str := ["self", "text", "at", "behind", "value"]
theorem sc_Way_read : FnScope N_Way_read ["self", "text", "at"] (defScope s_Way_read) := ⟨rfl, rfl, rfl, by decide +kernel, rfl, by decide +kernel, by decide +kernel⟩
abbrev s_Way_begins : Stmt := (clsBody (top 19)).getD 6 (.Pass ⟨0, 0, 0, 0⟩)
abbrev N_Way_begins : List Str := ["self"]
theorem sc_Way_begins : FnScope N_Way_begins ["self"] (defScope s_Way_begins) := ⟨rfl, rfl, rfl, by decide +kernel, rfl, by decide +kernel, by decide +kernel⟩
abbrev s_Way_ends : Stmt := (clsBody (top 19)).getD 7 (.Pass ⟨0, 0, 0, 0⟩)
abbrev N_Way_ends : List Str := ["self"]
theorem sc_Way_ends : FnScope N_Way_ends ["self"] (defScope s_Way_ends) := ⟨rfl, rfl, rfl, by decide +kernel, rfl, by decide +kernel, by decide +kernel⟩
abbrev s_Way_is_void : Stmt := (clsBody (top 19)).getD 8 (.Pass ⟨0, 0, 0, 0⟩)
abbrev N_Way_is_void : List Str := ["self"]
theorem sc_Way_is_void : FnScope N_Way_is_void ["self"] (defScope s_Way_is_void) := ⟨rfl, rfl, rfl, by decide +kernel, rfl, by decide +kernel, by decide +kernel⟩
abbrev s_Word_fits : Stmt := (clsBody (top 20)).getD 0 (.Pass ⟨0, 0, 0, 0⟩)
abbrev N_Word_fits : List Str := ["self", "value", "sign"]
theorem sc_Word_fits : FnScope N_Word_fits ["self", "value"] (defScope s_Word_fits) := ⟨rfl, rfl, rfl, by decide +kernel, rfl, by decide +kernel, by decide +kernel⟩
abbrev s_Word_ends : Stmt := (clsBody (top 20)).getD 1 (.Pass ⟨0, 0, 0, 0⟩)
abbrev N_Word_ends : List Str := ["self"]
theorem sc_Word_ends : FnScope N_Word_ends ["self"] (defScope s_Word_ends) := ⟨rfl, rfl, rfl, by decide +kernel, rfl, by decide +kernel, by decide +kernel⟩
abbrev s_Number_fits : Stmt := (clsBody (top 21)).getD 0 (.Pass ⟨0, 0, 0, 0⟩)
abbrev N_Number_fits : List Str := ["self", "value"]
theorem sc_Number_fits : FnScope N_Number_fits ["self", "value"] (defScope s_Number_fits) := ⟨rfl, rfl, rfl, by decide +kernel, rfl, by decide +kernel, by decide +kernel⟩
abbrev s_Number_marked : Stmt := (clsBody (top 21)).getD 1 (.Pass ⟨0, 0, 0, 0⟩)
abbrev N_Number_marked : List Str := ["self", "value"]
theorem sc_Number_marked : FnScope N_Number_marked ["self", "value"] (defScope s_Number_marked) := ⟨rfl, rfl, rfl, by decide +kernel, rfl, by decide +kernel, by decide +kernel⟩
abbrev s_Number_behind : Stmt := (clsBody (top 21)).getD 2 (.Pass ⟨0, 0, 0, 0⟩)
abbrev N_Number_behind : List Str := ["self", "text", "at"]
theorem sc_Number_behind : FnScope N_Number_behind ["self", "text", "at"] (defScope s_Number_behind) := ⟨rfl, rfl, rfl, by decide +kernel, rfl, by decide +kernel, by decide +kernel⟩
abbrev s_Number_meant : Stmt := (clsBody (top 21)).getD 3 (.Pass ⟨0, 0, 0, 0⟩)
abbrev N_Number_meant : List Str := ["self", "stretch", "figures"]
theorem sc_Number_meant : FnScope N_Number_meant ["self", "stretch"] (defScope s_Number_meant) := ⟨rfl, rfl, rfl, by decide +kernel, rfl, by decide +kernel, by decide +kernel⟩
abbrev s_Number_begins : Stmt := (clsBody (top 21)).getD 4 (.Pass ⟨0, 0, 0, 0⟩)
abbrev N_Number_begins : List Str := ["self"]
theorem sc_Number_begins : FnScope N_Number_begins ["self"] (defScope s_Number_begins) := ⟨rfl, rfl, rfl, by decide +kernel, rfl, by decide +kernel, by decide +kernel⟩
abbrev s_Number_ends : Stmt := (clsBody (top 21)).getD 5 (.Pass ⟨0, 0, 0, 0⟩)
abbrev N_Number_ends : List Str := ["self"]
theorem sc_Number_ends : FnScope N_Number_ends ["self"] (defScope s_Number_ends) := ⟨rfl, rfl, rfl, by decide +kernel, rfl, by decide +kernel, by decide +kernel⟩
abbrev s_Quoted_marked : Stmt := (clsBody (top 22)).getD 0 (.Pass ⟨0, 0, 0, 0⟩)
abbrev N_Quoted_marked : List Str := ["self", "value", "within"]
theorem sc_Quoted_marked : FnScope N_Quoted_marked ["self", "value"] (defScope s_Quoted_marked) := ⟨rfl, rfl, rfl, by decide +kernel, rfl, by decide +kernel, by decide +kernel⟩
abbrev s_Quoted_behind : Stmt := (clsBody (top 22)).getD 1 (.Pass ⟨0, 0, 0, 0⟩)
abbrev N_Quoted_behind : List Str := ["self", "text", "at", "behind"]
theorem sc_Quoted_behind : FnScope N_Quoted_behind ["self", "text", "at"] (defScope s_Quoted_behind) := ⟨rfl, rfl, rfl, by decide +kernel, rfl, by decide +kernel, by decide +kernel⟩
abbrev s_Quoted_meant : Stmt := (clsBody (top 22)).getD 2 (.Pass ⟨0, 0, 0, 0⟩)
abbrev N_Quoted_meant : List Str := ["self", "stretch"]
theorem sc_Quoted_meant : FnScope N_Quoted_meant ["self", "stretch"] (defScope s_Quoted_meant) := ⟨rfl, rfl, rfl, by decide +kernel, rfl, by decide +kernel, by decide +kernel⟩
abbrev s_Quoted_begins : Stmt := (clsBody (top 22)).getD 3 (.Pass ⟨0, 0, 0, 0⟩)
abbrev N_Quoted_begins : List Str := ["self"]
theorem sc_Quoted_begins : FnScope N_Quoted_begins ["self"] (defScope s_Quoted_begins) := ⟨rfl, rfl, rfl, by decide +kernel, rfl, by decide +kernel, by decide +kernel⟩
abbrev s_Quoted_ends : Stmt := (clsBody (top 22)).getD 4 (.Pass ⟨0, 0, 0, 0⟩)
abbrev N_Quoted_ends : List Str := ["self"]
theorem sc_Quoted_ends : FnScope N_Quoted_ends ["self"] (defScope s_Quoted_ends) := ⟨rfl, rfl, rfl, by decide +kernel, rfl, by decide +kernel, by decide +kernel⟩
abbrev s_Plain_marked : Stmt := (clsBody (top 23)).getD 0 (.Pass ⟨0, 0, 0, 0⟩)
abbrev N_Plain_marked : List Str := ["self", "value", "some"]
theorem sc_Plain_marked : FnScope N_Plain_marked ["self", "value"] (defScope s_Plain_marked) := ⟨rfl, rfl, rfl, by decide +kernel, rfl, by decide +kernel, by decide +kernel⟩
abbrev s_Plain_meant : Stmt := (clsBody (top 23)).getD 1 (.Pass ⟨0, 0, 0, 0⟩)
abbrev N_Plain_meant : List Str := ["self", "stretch"]
theorem sc_Plain_meant : FnScope N_Plain_meant ["self", "stretch"] (defScope s_Plain_meant) := ⟨rfl, rfl, rfl, by decide +kernel, rfl, by decide +kernel, by decide +kernel⟩
abbrev s_Plain_ends : Stmt := (clsBody (top 23)).getD 2 (.Pass ⟨0, 0, 0, 0⟩)
abbrev N_Plain_ends : List Str := ["self"]
theorem sc_Plain_ends : FnScope N_Plain_ends ["self"] (defScope s_Plain_ends) := ⟨rfl, rfl, rfl, by decide +kernel, rfl, by decide +kernel, by decide +kernel⟩
abbrev s_Plain_is_void : Stmt := (clsBody (top 23)).getD 3 (.Pass ⟨0, 0, 0, 0⟩)
abbrev N_Plain_is_void : List Str := ["self"]
theorem sc_Plain_is_void : FnScope N_Plain_is_void ["self"] (defScope s_Plain_is_void) := ⟨rfl, rfl, rfl, by decide +kernel, rfl, by decide +kernel, by decide +kernel⟩
abbrev s_Line_marked : Stmt := (clsBody (top 24)).getD 0 (.Pass ⟨0, 0, 0, 0⟩)
abbrev N_Line_marked : List Str := ["self", "value"]
theorem sc_Line_marked : FnScope N_Line_marked ["self", "value"] (defScope s_Line_marked) := ⟨rfl, rfl, rfl, by decide +kernel, rfl, by decide +kernel, by decide +kernel⟩
abbrev s_Line_meant : Stmt := (clsBody (top 24)).getD 1 (.Pass ⟨0, 0, 0, 0⟩)
abbrev N_Line_meant : List Str := ["self", "stretch"]
theorem sc_Line_meant : FnScope N_Line_meant ["self", "stretch"] (defScope s_Line_meant) := ⟨rfl, rfl, rfl, by decide +kernel, rfl, by decide +kernel, by decide +kernel⟩
abbrev s_Line_ends : Stmt := (clsBody (top 24)).getD 2 (.Pass ⟨0, 0, 0, 0⟩)
abbrev N_Line_ends : List Str := ["self"]
theorem sc_Line_ends : FnScope N_Line_ends ["self"] (defScope s_Line_ends) := ⟨rfl, rfl, rfl, by decide +kernel, rfl, by decide +kernel, by decide +kernel⟩
abbrev s_Line_is_void : Stmt := (clsBody (top 24)).getD 3 (.Pass ⟨0, 0, 0, 0⟩)
abbrev N_Line_is_void : List Str := ["self"]
theorem sc_Line_is_void : FnScope N_Line_is_void ["self"] (defScope s_Line_is_void) := ⟨rfl, rfl, rfl, by decide +kernel, rfl, by decide +kernel, by decide +kernel⟩
abbrev s_unmarked : Stmt := top 25
abbrev N_unmarked : List Str := ["text", "mark", "told", "found", "at", "sign"]
theorem sc_unmarked : FnScope N_unmarked ["text", "mark", "told"] (defScope s_unmarked) := ⟨rfl, rfl, rfl, by decide +kernel, rfl, by decide +kernel, by decide +kernel⟩
/-- the kind of value that a way takes -/
def kd : Way → Vl → Prop
  | .number, .num _ => True
  | .number, .txt _ => False
  | _, .txt t => t.length ≤ 16777216
  | _, .num _ => False
theorem kd_of {w : Way} {v : Vl} (h : fits w v = true) : kd w v := by
  cases w <;> cases v <;> simp [fits] at h <;> simp [kd] <;> omega
def cFits (w : Way) : CtA Vl := { args := fun v => [.way w, vlD v], pre := kd w, post := fun v d => d = .bl (fits w v) }
def cMarked (w : Way) : CtA Vl := { args := fun v => [.way w, vlD v], pre := fun v => fits w v = true, post := fun v d => d = .str (marked w v) }
def cCoded (w : Way) : CtA Vl := { args := fun v => [.way w, vlD v], pre := fun v => fits w v = true, post := fun v d => d = .str (marked w v) }
def cEnds (w : Way) : CtA Unit := { args := fun _ => [.way w], post := fun v d => d = .str (ends w) }
def cBegins (w : Way) : CtA Unit := { args := fun _ => [.way w], post := fun v d => d = .str (begins w) }
def cVoid (w : Way) : CtA Unit := { args := fun _ => [.way w], post := fun v d => d = .bl (isVoid w) }
def behD (w : Way) (s : T) (i : Nat) : D := match stretch w (s.drop i) with
  | none => .non
  | some q => .int ((s.length - q.2.length : Nat) : Int)
def cBehind (w : Way) : CtA (T × Nat) := { args := fun a => [.way w, .str a.1, .int a.2], pre := fun a => a.1.length ≤ 16000000 ∧ a.2 ≤ a.1.length, post := fun a d => d = behD w a.1 a.2 }
def vlsD : Option Vl → D
  | none => .tup []
  | some v => .tup [vlD v]
def cMeant (w : Way) : CtA T := { args := fun a => [.way w, .str a], pre := fun a => a.length ≤ 16000000 ∧ ∃ s r, stretch w s = some (a, r), post := fun a d => d = vlsD (meant w a) }
def redD (w : Way) (s : T) (i : Nat) : D := match readW w (s.drop i) with
  | none => .non
  | some q => .tup [vlD q.1, .int ((s.length - q.2.length : Nat) : Int)]
def cRead (w : Way) : CtA (T × Nat) := { args := fun a => [.way w, .str a.1, .int a.2], pre := fun a => a.1.length ≤ 16000000 ∧ a.2 ≤ a.1.length, post := fun a d => d = redD w a.1 a.2 }
def tld (l : List (Nat × Nat)) : List (T × T) := l.map fun q => ([q.1], [q.2])
def unmD : Option T → D
  | none => .tup []
  | some v => .tup [.str v]
def cUnm : CtA (T × Nat × List (Nat × Nat)) := { args := fun a => [.str a.1, .str [a.2.1], .dic (tld a.2.2)], pre := fun a => a.1.length ≤ 16000000, post := fun a d => d = unmD (unm a.2.1 a.2.2 a.1) }
section
variable {P : Program} {w : World} {K : PySem.W.Frag} {mg : Str → Option Value} {base : Heap} {f : Addr} {fd : FuncData} {wc : Way → Addr} {nf : Addr} {k : Nat}
/-! ### ends, begins, is_void -/
theorem ok_Word_ends (fx : Fx K mg wc nf) (F : FnP K "ends" "Word.ends" s_Word_ends f fd) (G : Fn P w K mg base "without" ["some"] k (spA K wc nf cWithout)) : FnOk P w K mg base (L2.CX P w) (k + 1) f fd ["self"] (spA K wc nf (cEnds .word)) := by
  refine F.ok sc_Word_ends (spA_len fun a _ => rfl) fun cdv A outer s H vs Q E hr h => ?_
  obtain ⟨t, pre, go⟩ := pure_A (N := N_Word_ends) (fun a _ => by simp [cEnds]) h
  refine ⟨_, (pss_one (ps_ret (pe_fn G hr (by omega) rfl passL (pa_cons (pe_op op_add_str (pe_op op_add_str (C8.pe_gc rfl fx.gLETTERS) (C8.pe_gc rfl fx.gGREAT)) (C8.pe_gc rfl fx.gFIGURES)) pa_nil)))), go _ (?_ : wS _ _ ⟨[some (.val (.way .word))], none, 0⟩ _)⟩
  try dsimp only [L2.cxOf]
  repeat' walk_at "w"
  · decide
  · decide
  · refine ⟨ALN, trivial, ?_, fun d hd => ?_, fun _ => id⟩
    · rw [letters_cps, great_cps, figures_cps]; rfl
    · repeat' walk_at "w"
      exact hd
theorem ok_Number_ends (fx : Fx K mg wc nf) (F : FnP K "ends" "Number.ends" s_Number_ends f fd) (G : Fn P w K mg base "without" ["some"] k (spA K wc nf cWithout)) : FnOk P w K mg base (L2.CX P w) (k + 1) f fd ["self"] (spA K wc nf (cEnds .number)) := by
  refine F.ok sc_Number_ends (spA_len fun a _ => rfl) fun cdv A outer s H vs Q E hr h => ?_
  obtain ⟨t, pre, go⟩ := pure_A (N := N_Number_ends) (fun a _ => by simp [cEnds]) h
  refine ⟨_, (pss_one (ps_ret (pe_fn G hr (by omega) rfl passL (pa_cons (C8.pe_gc rfl fx.gFIGURES) pa_nil)))), go _ (?_ : wS _ _ ⟨[some (.val (.way .number))], none, 0⟩ _)⟩
  try dsimp only [L2.cxOf]
  repeat' walk_at "w"
  refine ⟨FIG, trivial, by rw [figures_cps]; rfl, fun d hd => ?_, fun _ => id⟩
  repeat' walk_at "w"
  exact hd
theorem ok_Quoted_ends (fx : Fx K mg wc nf) (F : FnP K "ends" "Quoted.ends" s_Quoted_ends f fd) (G : Fn P w K mg base "without" ["some"] k (spA K wc nf cWithout)) : FnOk P w K mg base (L2.CX P w) (k + 1) f fd ["self"] (spA K wc nf (cEnds .quoted)) := by
  refine F.ok sc_Quoted_ends (spA_len fun a _ => rfl) fun cdv A outer s H vs Q E hr h => ?_
  obtain ⟨t, pre, go⟩ := pure_A (N := N_Quoted_ends) (fun a _ => by simp [cEnds]) h
  refine ⟨_, (pss_one (ps_ret (pe_fn G hr (by omega) rfl passL (pa_cons pe_str pa_nil)))), go _ (?_ : wS _ _ ⟨[some (.val (.way .quoted))], none, 0⟩ _)⟩
  try dsimp only [L2.cxOf]
  repeat' walk_at "w"
  refine ⟨[], trivial, by rw [cps_nil]; rfl, fun d hd => ?_, fun _ => id⟩
  repeat' walk_at "w"
  exact hd
theorem ok_Plain_ends (fx : Fx K mg wc nf) (F : FnP K "ends" "Plain.ends" s_Plain_ends f fd) : FnOk P w K mg base (L2.CX P w) (k + 1) f fd ["self"] (spA K wc nf (cEnds .plain)) := by
  refine F.ok sc_Plain_ends (spA_len fun a _ => rfl) fun cdv A outer s H vs Q E hr h => ?_
  obtain ⟨t, pre, go⟩ := pure_A (N := N_Plain_ends) (fun a _ => by simp [cEnds]) h
  refine ⟨_, (pss_one (ps_ret (C8.pe_gc rfl fx.gPLAIN_ENDS))), go _ (?_ : wS _ _ ⟨[some (.val (.way .plain))], none, 0⟩ _)⟩
  try dsimp only [L2.cxOf]
  repeat' walk_at "w"
  rw [plain_cps]; exact rfl
theorem ok_Line_ends (fx : Fx K mg wc nf) (F : FnP K "ends" "Line.ends" s_Line_ends f fd) : FnOk P w K mg base (L2.CX P w) (k + 1) f fd ["self"] (spA K wc nf (cEnds .line)) := by
  refine F.ok sc_Line_ends (spA_len fun a _ => rfl) fun cdv A outer s H vs Q E hr h => ?_
  obtain ⟨t, pre, go⟩ := pure_A (N := N_Line_ends) (fun a _ => by simp [cEnds]) h
  refine ⟨_, (pss_one (ps_ret pe_str)), go _ (?_ : wS _ _ ⟨[some (.val (.way .line))], none, 0⟩ _)⟩
  try dsimp only [L2.cxOf]
  repeat' walk_at "w"
  exact rfl
theorem ok_Number_begins (fx : Fx K mg wc nf) (F : FnP K "begins" "Number.begins" s_Number_begins f fd) : FnOk P w K mg base (L2.CX P w) (k + 1) f fd ["self"] (spA K wc nf (cBegins .number)) := by
  refine F.ok sc_Number_begins (spA_len fun a _ => rfl) fun cdv A outer s H vs Q E hr h => ?_
  obtain ⟨t, pre, go⟩ := pure_A (N := N_Number_begins) (fun a _ => by simp [cBegins]) h
  refine ⟨_, (pss_one (ps_ret (pe_op op_add_str pe_str (C8.pe_gc rfl fx.gFIGURES)))), go _ (?_ : wS _ _ ⟨[some (.val (.way .number))], none, 0⟩ _)⟩
  try dsimp only [L2.cxOf]
  repeat' walk_at "w"
  · decide
  · rw [figures_cps]; exact rfl
theorem ok_Quoted_begins (fx : Fx K mg wc nf) (F : FnP K "begins" "Quoted.begins" s_Quoted_begins f fd) : FnOk P w K mg base (L2.CX P w) (k + 1) f fd ["self"] (spA K wc nf (cBegins .quoted)) := by
  refine F.ok sc_Quoted_begins (spA_len fun a _ => rfl) fun cdv A outer s H vs Q E hr h => ?_
  obtain ⟨t, pre, go⟩ := pure_A (N := N_Quoted_begins) (fun a _ => by simp [cBegins]) h
  refine ⟨_, (pss_one (ps_ret pe_str)), go _ (?_ : wS _ _ ⟨[some (.val (.way .quoted))], none, 0⟩ _)⟩
  try dsimp only [L2.cxOf]
  repeat' walk_at "w"
  exact rfl
theorem ok_Way_begins {v : Way} (hv : begins v = withoutL (ends v)) (fx : Fx K mg wc nf) (F : FnP K "begins" "Way.begins" s_Way_begins f fd) (G : Fn P w K mg base "without" ["some"] k (spA K wc nf cWithout)) (cl : Cls K (wc v)) (Me_ : Me P w K mg base (wc v) "ends" ["self"] k (spA K wc nf (cEnds v))) : FnOk P w K mg base (L2.CX P w) (k + 1) f fd ["self"] (spA K wc nf (cBegins v)) := by
  refine F.ok sc_Way_begins (spA_len fun a _ => rfl) fun cdv A outer s H vs Q E hr h => ?_
  obtain ⟨t, pre, go⟩ := pure_A (N := N_Way_begins) (fun a _ => by simp [cBegins]) h
  refine ⟨_, (pss_one (ps_ret (pe_fn G hr (by omega) rfl passL (pa_cons (pe_me0 cl Me_ hr (by omega) passL (pv 0)) pa_nil)))), go _ (?_ : wS _ _ ⟨[some (.val (.way v))], none, 0⟩ _)⟩
  try dsimp only [L2.cxOf]
  repeat' walk_at "w"
  refine ⟨(), trivial, rfl, fun d hd => ?_, fun _ => id⟩
  repeat' walk_at "w"
  rw [hd]
  refine ⟨ends v, trivial, rfl, fun d hd => ?_, fun _ => id⟩
  repeat' walk_at "w"
  show _ = _
  rw [hd, hv]
theorem ok_Way_is_void {v : Way} (hv : isVoid v = false) (fx : Fx K mg wc nf) (F : FnP K "is_void" "Way.is_void" s_Way_is_void f fd) : FnOk P w K mg base (L2.CX P w) (k + 1) f fd ["self"] (spA K wc nf (cVoid v)) := by
  refine F.ok sc_Way_is_void (spA_len fun a _ => rfl) fun cdv A outer s H vs Q E hr h => ?_
  obtain ⟨t, pre, go⟩ := pure_A (N := N_Way_is_void) (fun a _ => by simp [cVoid]) h
  refine ⟨_, (pss_one (ps_ret pe_bl)), go _ (?_ : wS _ _ ⟨[some (.val (.way v))], none, 0⟩ _)⟩
  try dsimp only [L2.cxOf]
  repeat' walk_at "w"
  show _ = _
  rw [hv]
theorem ok_Plain_is_void (fx : Fx K mg wc nf) (F : FnP K "is_void" "Plain.is_void" s_Plain_is_void f fd) : FnOk P w K mg base (L2.CX P w) (k + 1) f fd ["self"] (spA K wc nf (cVoid .plain)) := by
  refine F.ok sc_Plain_is_void (spA_len fun a _ => rfl) fun cdv A outer s H vs Q E hr h => ?_
  obtain ⟨t, pre, go⟩ := pure_A (N := N_Plain_is_void) (fun a _ => by simp [cVoid]) h
  refine ⟨_, (pss_one (ps_ret pe_bl)), go _ (?_ : wS _ _ ⟨[some (.val (.way .plain))], none, 0⟩ _)⟩
  try dsimp only [L2.cxOf]
  repeat' walk_at "w"
  exact rfl
theorem ok_Line_is_void (fx : Fx K mg wc nf) (F : FnP K "is_void" "Line.is_void" s_Line_is_void f fd) : FnOk P w K mg base (L2.CX P w) (k + 1) f fd ["self"] (spA K wc nf (cVoid .line)) := by
  refine F.ok sc_Line_is_void (spA_len fun a _ => rfl) fun cdv A outer s H vs Q E hr h => ?_
  obtain ⟨t, pre, go⟩ := pure_A (N := N_Line_is_void) (fun a _ => by simp [cVoid]) h
  refine ⟨_, (pss_one (ps_ret pe_bl)), go _ (?_ : wS _ _ ⟨[some (.val (.way .line))], none, 0⟩ _)⟩
  try dsimp only [L2.cxOf]
  repeat' walk_at "w"
  exact rfl
end

/-! W3: the ways' fits, marked, coded, behind, meant, read; unmarked. -/
section
variable {P : Program} {w : World} {K : PySem.W.Frag} {mg : Str → Option Value} {base : Heap} {f : Addr} {fd : FuncData} {wc : Way → Addr} {nf : Addr} {k : Nat}
theorem fits_txt {v : Way} (h : v = .quoted ∨ v = .plain ∨ v = .line) (t : T) : fits v (.txt t) = (decide ((t.length : Int) ≤ 400) && allSG t) := by
  have e : decide ((t.length : Int) ≤ 400) = decide (t.length ≤ 400) := by
    congr 1; apply propext; omega
  rcases h with rfl | rfl | rfl <;> (rw [e]; rfl)
theorem ok_Way_fits {v : Way} (hv : v = .quoted ∨ v = .plain ∨ v = .line) (fx : Fx K mg wc nf) (F : FnP K "fits" "Way.fits" s_Way_fits f fd) (G : Fn P w K mg base "is_text" ["thing", "most"] k (spA K wc nf cIsText)) : FnOk P w K mg base (L2.CX P w) (k + 1) f fd ["self", "value"] (spA K wc nf (cFits v)) := by
  refine F.ok sc_Way_fits (spA_len fun a _ => rfl) fun cdv A outer s H vs Q E hr h => ?_
  obtain ⟨t, pre, go⟩ := pure_A (N := N_Way_fits) (fun a _ => by simp [cFits]) h
  obtain ⟨t, rfl, hl⟩ : ∃ u, t = .txt u ∧ u.length ≤ 16777216 := by
    cases t with
    | num i => rcases hv with rfl | rfl | rfl <;> exact pre.elim
    | txt u => exact ⟨u, rfl, by rcases hv with rfl | rfl | rfl <;> exact pre⟩
  refine ⟨_, (pss_one (ps_ret (pe_fn G hr (by omega) rfl passL (pa_cons (pv 1) (pa_cons (C8.pe_gc rfl fx.gMOST_SIGNS) pa_nil))))), go _ (?_ : wS _ _ ⟨[some (.val (.way v)), some (.val (.str t))], none, 0⟩ _)⟩
  try dsimp only [L2.cxOf]
  repeat' walk_at "w"
  refine ⟨(t, 400), hl, rfl, fun d hd => ?_, fun _ => id⟩
  repeat' walk_at "w"
  rw [hd]
  exact congrArg D.bl (fits_txt hv t).symm
theorem ok_Word_fits (fx : Fx K mg wc nf) (F : FnP K "fits" "Word.fits" s_Word_fits f fd) : FnOk P w K mg base (L2.CX P w) (k + 1) f fd ["self", "value"] (spA K wc nf (cFits .word)) := by
  refine F.ok sc_Word_fits (spA_len fun a _ => rfl) fun cdv A outer s H vs Q E hr h => ?_
  obtain ⟨t, pre, go⟩ := pure_A (N := N_Word_fits) (fun a _ => by simp [cFits]) h
  obtain ⟨t, rfl, hl⟩ : ∃ u, t = .txt u ∧ u.length ≤ 16777216 := by
    cases t with
    | num i => exact pre.elim
    | txt u => exact ⟨u, rfl, pre⟩
  refine ⟨_, (pss_cons (ps_if (PW.pt (pw_or (pt_not (pt_val (pe_callB call_isi (by rfl) fx.b_isinstance bb_isinstance (pa_cons (pv 1) (pa_cons (pe_bltn (v := .ty "str") rfl fx.b_str bb_str rfl) pa_nil))))) (pw_or1 (pt_not (pt_chain op_le op_le pe_int (pe_callB call_len_str (by rfl) fx.b_len bb_len (pa_cons (pv 1) pa_nil)) (C8.pe_gc rfl fx.gMOST_LETTERS))))))
  (pss_one (ps_ret pe_bl))
  pss_nil)
  (pss_one (ps_ret (pe_callB (cr_all (by rfl)) (by rfl) fx.b_all bb_all (pa_cons (pe_lc (own := [("sign", 2)]) (by rfl) sc_Word_fits.nd (pi_str (pv 1)) (blkOk_by (own := [("sign", 2)]) (N := N_Word_fits) (sc := defScope s_Word_fits) (by decide +kernel)) (fun _ _ _ _ _ => (pg_name (i := 2) sc_Word_fits.nd rfl (Or.inl rfl))) (fun _ _ _ _ _ => pts_nil) (fun _ _ _ _ _ => (pe_cmpR op_in_sign (pv 2) (pe_op op_add_str (pe_op op_add_str (C8.pe_gc rfl fx.gLETTERS) (C8.pe_gc rfl fx.gGREAT)) (C8.pe_gc rfl fx.gFIGURES)) rfl))) pa_nil))))), go _ (?_ : wS _ _ ⟨[some (.val (.way .word)), some (.val (.str t)), none], none, 0⟩ _)⟩
  try dsimp only [L2.cxOf]
  have no : ¬ (1 ≤ (t.length : Int) ∧ (t.length : Int) ≤ 40) → D.bl false = .bl (fits .word (.txt t)) := fun q => by
    congr 1
    simp only [fits]
    by_cases h1 : 1 ≤ t.length
    · rw [decide_eq_true h1, decide_eq_false (by omega)]; simp
    · rw [decide_eq_false h1]; simp
  have yes : ∀ p : Pr, p = ⟨K, wc, nf, E, (cFits .word).bad (.txt t)⟩ → (1 ≤ (t.length : Int) ∧ (t.length : Int) ≤ 40) → True := fun _ _ _ => trivial
  repeat' walk_at "w"
  · exact hl
  refine ite_b (fun hb => ?_) fun hb => ?_
  · repeat' walk_at "w"
    refine ite_b (fun hb2 => ?_) fun hb2 => ?_
    · repeat' walk_at "w"
      exact no (by simp at hb hb2; omega)
    · repeat' walk_at "w"
      refine wE_lcM (gw_name (by simp)) ?_
      repeat' walk_at "w"
      refine ⟨(t.map fun c => decide (c ∈ ALN)).map D.bl, by simpa using hl, by simp, fun i d hd => ?_, ?_⟩
      · obtain ⟨c, hc, rfl⟩ := sgs_get hd
        repeat' walk_at "w"
        · decide
        · decide
        · refine ⟨?_, rfl⟩
          rw [bls_get hc, letters_cps, great_cps, figures_cps]; rfl
      · repeat' walk_at "w"
        have h1 : 1 ≤ t.length ∧ t.length ≤ 40 := by simp at hb hb2; omega
        show _ = D.bl (fits .word (.txt t))
        simp only [fits, decide_eq_true h1.1, decide_eq_true h1.2]
        simp [List.all_map, Function.comp_def]
  · repeat' walk_at "w"
    exact no (by simp at hb; omega)
theorem ok_Number_fits (fx : Fx K mg wc nf) (F : FnP K "fits" "Number.fits" s_Number_fits f fd) (G : Fn P w K mg base "is_number" ["thing"] k (spA K wc nf cIsNumber)) : FnOk P w K mg base (L2.CX P w) (k + 1) f fd ["self", "value"] (spA K wc nf (cFits .number)) := by
  refine F.ok sc_Number_fits (spA_len fun a _ => rfl) fun cdv A outer s H vs Q E hr h => ?_
  obtain ⟨t, pre, go⟩ := pure_A (N := N_Number_fits) (fun a _ => by simp [cFits]) h
  obtain ⟨i, rfl⟩ : ∃ i, t = .num i := by
    cases t with
    | num i => exact ⟨i, rfl⟩
    | txt u => exact pre.elim
  refine ⟨_, (pss_one (ps_ret (pe_fn G hr (by omega) rfl passL (pa_cons (pv 1) pa_nil)))), go _ (?_ : wS _ _ ⟨[some (.val (.way .number)), some (.val (.int i))], none, 0⟩ _)⟩
  try dsimp only [L2.cxOf]
  repeat' walk_at "w"
  refine ⟨i, trivial, rfl, fun d hd => ?_, fun _ => id⟩
  repeat' walk_at "w"
  exact hd
theorem ok_Way_marked (fx : Fx K mg wc nf) (F : FnP K "marked" "Way.marked" s_Way_marked f fd) : FnOk P w K mg base (L2.CX P w) (k + 1) f fd ["self", "value"] (spA K wc nf (cMarked .word)) := by
  refine F.ok sc_Way_marked (spA_len fun a _ => rfl) fun cdv A outer s H vs Q E hr h => ?_
  obtain ⟨t, pre, go⟩ := pure_A (N := N_Way_marked) (fun a _ => by simp [cMarked]) h
  obtain ⟨t, rfl⟩ : ∃ u, t = .txt u := by
    cases t with
    | num i => cases pre
    | txt u => exact ⟨u, rfl⟩
  refine ⟨_, (pss_one (ps_ret (pv 1))), go _ (?_ : wS _ _ ⟨[some (.val (.way .word)), some (.val (.str t))], none, 0⟩ _)⟩
  try dsimp only [L2.cxOf]
  repeat' walk_at "w"
  exact rfl
theorem log_num {i : Int} (h : fits .number (.num i) = true) : i.natAbs.log2 < 1920 := by
  simp [fits] at h
  rcases Nat.eq_zero_or_pos i.natAbs with e | e
  · rw [e]; decide
  · rw [Nat.log2_lt (by omega)]
    have : i.natAbs < 2 ^ 100 := by
      have : (2 : Nat) ^ 100 = 1267650600228229401496703205376 := by decide
      omega
    exact Nat.lt_of_lt_of_le this (Nat.pow_le_pow_right (by decide) (by decide))
theorem ok_Number_marked (fx : Fx K mg wc nf) (F : FnP K "marked" "Number.marked" s_Number_marked f fd) : FnOk P w K mg base (L2.CX P w) (k + 1) f fd ["self", "value"] (spA K wc nf (cMarked .number)) := by
  refine F.ok sc_Number_marked (spA_len fun a _ => rfl) fun cdv A outer s H vs Q E hr h => ?_
  obtain ⟨t, pre, go⟩ := pure_A (N := N_Number_marked) (fun a _ => by simp [cMarked]) h
  obtain ⟨i, rfl⟩ : ∃ i, t = .num i := by
    cases t with
    | num i => exact ⟨i, rfl⟩
    | txt u => cases pre
  refine ⟨_, (pss_one (ps_ret (pe_callTy call_str_int (by rfl) fx.b_str bb_str (pa_cons (pv 1) pa_nil)))), go _ (?_ : wS _ _ ⟨[some (.val (.way .number)), some (.val (.int i))], none, 0⟩ _)⟩
  try dsimp only [L2.cxOf]
  repeat' walk_at "w"
  · exact log_num pre
  · exact rfl
theorem escQ_rep (t : T) : (((t.flatMap fun d => if d = 94 then [94, 94] else [d]).flatMap fun d => if d = 34 then [94, 113] else [d]).flatMap fun d => if d = 10 then [94, 110] else [d]) = t.flatMap escQ := by
  rw [flatMap2 (h := fun c => if c = 34 then [94, 113] else if c = 10 then [94, 110] else [c]) fun c => ?_, flatMap2 (h := escQ) fun c => ?_]
  · unfold escQ; (repeat' split) <;> simp_all
  · (repeat' split) <;> simp_all
theorem escL_rep (t : T) : ((t.flatMap fun d => if d = 126 then [126, 126] else [d]).flatMap fun d => if d = 10 then [126, 110] else [d]) = t.flatMap escL := by
  rw [flatMap2 (h := escL) fun c => ?_]
  unfold escL; (repeat' split) <;> simp_all
theorem escP_rep (t : T) : ((((((t.flatMap fun d => if d = 126 then [126, 126] else [d]).flatMap fun d => if d = 60 then [126, 108] else [d]).flatMap fun d => if d = 62 then [126, 103] else [d]).flatMap fun d => if d = 38 then [126, 97] else [d]).flatMap fun d => if d = 124 then [126, 98] else [d]).flatMap fun d => if d = 10 then [126, 110] else [d]) = t.flatMap escP := by
  rw [flatMap2 (h := fun c => if c = 124 then [126, 98] else if c = 10 then [126, 110] else [c]) fun c => ?_, flatMap2 (h := fun c => if c = 38 then [126, 97] else if c = 124 then [126, 98] else if c = 10 then [126, 110] else [c]) fun c => ?_,
    flatMap2 (h := fun c => if c = 62 then [126, 103] else if c = 38 then [126, 97] else if c = 124 then [126, 98] else if c = 10 then [126, 110] else [c]) fun c => ?_,
    flatMap2 (h := fun c => if c = 60 then [126, 108] else if c = 62 then [126, 103] else if c = 38 then [126, 97] else if c = 124 then [126, 98] else if c = 10 then [126, 110] else [c]) fun c => ?_, flatMap2 (h := escP) fun c => ?_]
  · unfold escP; (repeat' split) <;> simp_all
  · (repeat' split) <;> simp_all
  · (repeat' split) <;> simp_all
  · (repeat' split) <;> simp_all
  · (repeat' split) <;> simp_all
theorem two_len (c : Nat) (a b : Nat) : ∀ d : Nat, (if d = c then [a, b] else [d]).length ≤ 2 := fun d => by split <;> simp
theorem flat2_le {t : T} {f : Nat → T} {n : Nat} (h : ∀ c, (f c).length ≤ 2) (hl : t.length ≤ n) : (t.flatMap f).length ≤ 2 * n := Nat.le_trans (flat2_len h) (Nat.mul_le_mul_left 2 hl)
theorem room2 {t : T} {n m : Nat} (hl : t.length ≤ n) (h : n + (n + 1) * m ≤ 16777216) : t.length + (t.length + 1) * m ≤ 16777216 :=
  Nat.le_trans (Nat.add_le_add hl (Nat.mul_le_mul_right m (Nat.succ_le_succ hl))) h
theorem len400 {t : T} (h : fits .quoted (.txt t) = true ∨ fits .plain (.txt t) = true ∨ fits .line (.txt t) = true) : t.length ≤ 400 := by
  rcases h with h | h | h <;> (simp [fits] at h; exact h.1)
theorem ok_Quoted_marked (fx : Fx K mg wc nf) (F : FnP K "marked" "Quoted.marked" s_Quoted_marked f fd) : FnOk P w K mg base (L2.CX P w) (k + 1) f fd ["self", "value"] (spA K wc nf (cMarked .quoted)) := by
  refine FunD.okT F sc_Quoted_marked (by decide +kernel) (by decide) (spA_len fun a _ => rfl) fun cdv A outer s H vs Q E hr h => ?_
  obtain ⟨t, pre, go⟩ := pure_A (N := N_Quoted_marked) (fun a _ => by simp [cMarked]) h
  obtain ⟨t, rfl⟩ : ∃ u, t = .txt u := by
    cases t with
    | num i => cases pre
    | txt u => exact ⟨u, rfl⟩
  have hl := len400 (.inl pre)
  refine ⟨_, psst_cons (pst_set (i := 2) sc_Quoted_marked.nd rfl (Or.inl rfl) (CwR.pet_replT (CwR.pet_replT (CwR.pet_replC (pv 1))))) (CwR.psst_one (CwR.pst_ret (CwR.PET.of (pe_op op_add_str (pe_op op_add_str pe_str (pv 2)) pe_str)))), go _ (?_ : wS _ _ ⟨[some (.val (.way .quoted)), some (.val (.str t)), none], none, 0⟩ _)⟩
  try dsimp only [L2.cxOf]
  repeat' walk_at "w"
  refine ⟨room2 (n := 400) (m := 2) hl (by decide), ?_⟩
  rw [replace_S (c := 94) rfl]
  repeat' walk_at "w"
  refine ⟨room2 (n := 800) (m := 2) (flat2_le (two_len 94 94 94) hl) (by decide), ?_⟩
  rw [replace_S (c := 34) rfl]
  repeat' walk_at "w"
  refine ⟨room2 (n := 1600) (m := 2) (flat2_le (two_len 34 94 113) (flat2_le (two_len 94 94 94) hl)) (by decide), ?_⟩
  rw [replace_S (c := 10) rfl, show (Str.ofString "^^").cps.toList = [94, 94] from rfl, show (Str.ofString "^q").cps.toList = [94, 113] from rfl, show (Str.ofString "^n").cps.toList = [94, 110] from rfl, escQ_rep]
  have hm := flat2_le escQ_two hl
  repeat' walk_at "w"
  · rw [show (Str.ofString "\"").cps.toList = [34] from rfl]; exact Nat.le_trans (Nat.add_le_add_left hm 1) (by decide)
  · rw [show (Str.ofString "\"").cps.toList = [34] from rfl]
    rw [List.length_append]
    exact Nat.le_trans (Nat.add_le_add_right (Nat.add_le_add_left hm 1) 1) (by decide)
  · exact rfl
theorem ok_Line_marked (fx : Fx K mg wc nf) (F : FnP K "marked" "Line.marked" s_Line_marked f fd) : FnOk P w K mg base (L2.CX P w) (k + 1) f fd ["self", "value"] (spA K wc nf (cMarked .line)) := by
  refine FunD.okT F sc_Line_marked (by decide +kernel) (by decide) (spA_len fun a _ => rfl) fun cdv A outer s H vs Q E hr h => ?_
  obtain ⟨t, pre, go⟩ := pure_A (N := N_Line_marked) (fun a _ => by simp [cMarked]) h
  obtain ⟨t, rfl⟩ : ∃ u, t = .txt u := by
    cases t with
    | num i => cases pre
    | txt u => exact ⟨u, rfl⟩
  have hl := len400 (.inr (.inr pre))
  refine ⟨_, CwR.psst_one (CwR.pst_ret (CwR.pet_replT (CwR.pet_replC (pv 1)))), go _ (?_ : wS _ _ ⟨[some (.val (.way .line)), some (.val (.str t))], none, 0⟩ _)⟩
  try dsimp only [L2.cxOf]
  repeat' walk_at "w"
  refine ⟨room2 (n := 400) (m := 2) hl (by decide), ?_⟩
  rw [replace_S (c := 126) rfl]
  repeat' walk_at "w"
  refine ⟨room2 (n := 800) (m := 2) (flat2_le (two_len 126 126 126) hl) (by decide), ?_⟩
  rw [replace_S (c := 10) rfl, show (Str.ofString "~~").cps.toList = [126, 126] from rfl, show (Str.ofString "~n").cps.toList = [126, 110] from rfl, escL_rep]
  exact rfl
theorem ok_Plain_marked (fx : Fx K mg wc nf) (F : FnP K "marked" "Plain.marked" s_Plain_marked f fd) : FnOk P w K mg base (L2.CX P w) (k + 1) f fd ["self", "value"] (spA K wc nf (cMarked .plain)) := by
  refine FunD.okT F sc_Plain_marked (by decide +kernel) (by decide) (spA_len fun a _ => rfl) fun cdv A outer s H vs Q E hr h => ?_
  obtain ⟨t, pre, go⟩ := pure_A (N := N_Plain_marked) (fun a _ => by simp [cMarked]) h
  obtain ⟨t, rfl⟩ : ∃ u, t = .txt u := by
    cases t with
    | num i => cases pre
    | txt u => exact ⟨u, rfl⟩
  have hl := len400 (.inr (.inl pre))
  refine ⟨_, psst_cons (pst_set (i := 2) sc_Plain_marked.nd rfl (Or.inl rfl) (CwR.pet_replT (CwR.pet_replT (CwR.pet_replT (CwR.pet_replC (pv 1)))))) (CwR.psst_one (CwR.pst_ret (CwR.pet_replT (CwR.pet_replC (pv 2))))), go _ (?_ : wS _ _ ⟨[some (.val (.way .plain)), some (.val (.str t)), none], none, 0⟩ _)⟩
  try dsimp only [L2.cxOf]
  have h1 := flat2_le (two_len 126 126 126) hl
  have h2 := flat2_le (two_len 60 126 108) h1
  have h3 := flat2_le (two_len 62 126 103) h2
  have h4 := flat2_le (two_len 38 126 97) h3
  have h5 := flat2_le (two_len 124 126 98) h4
  repeat' walk_at "w"
  refine ⟨room2 (n := 400) (m := 2) hl (by decide), ?_⟩
  rw [replace_S (c := 126) rfl]
  repeat' walk_at "w"
  refine ⟨room2 (m := 2) h1 (by decide), ?_⟩
  rw [replace_S (c := 60) rfl]
  repeat' walk_at "w"
  refine ⟨room2 (m := 2) h2 (by decide), ?_⟩
  rw [replace_S (c := 62) rfl]
  repeat' walk_at "w"
  refine ⟨room2 (m := 2) h3 (by decide), ?_⟩
  rw [replace_S (c := 38) rfl]
  repeat' walk_at "w"
  refine ⟨room2 (m := 2) h4 (by decide), ?_⟩
  rw [replace_S (c := 124) rfl]
  repeat' walk_at "w"
  refine ⟨room2 (m := 2) h5 (by decide), ?_⟩
  rw [replace_S (c := 10) rfl, show (Str.ofString "~~").cps.toList = [126, 126] from rfl, show (Str.ofString "~l").cps.toList = [126, 108] from rfl, show (Str.ofString "~g").cps.toList = [126, 103] from rfl,
    show (Str.ofString "~a").cps.toList = [126, 97] from rfl, show (Str.ofString "~b").cps.toList = [126, 98] from rfl, show (Str.ofString "~n").cps.toList = [126, 110] from rfl, escP_rep]
  exact rfl
end

/-! W4: the ways' coded, behind, meant, read; unmarked. -/
theorem cut_one {s : T} {i : Nat} : cutT s (some (i : Int)) (some ((i : Int) + 1)) = (s.drop i).take 1 := by
  rw [cut_mid (by omega) (by omega)]
  congr 1; omega
theorem take_one {s : T} {i c : Nat} : (s.drop i).take 1 = [c] ↔ s[i]? = some c := by
  cases h : s[i]? with
  | none =>
    rw [List.drop_eq_nil_of_le (List.getElem?_eq_none_iff.mp h)]; simp
  | some d =>
    obtain ⟨hl, e⟩ := List.getElem?_eq_some_iff.mp h
    rw [List.drop_eq_getElem_cons hl, e]; simp
theorem drop_cons {s : T} {i c : Nat} (h : s[i]? = some c) : s.drop i = c :: s.drop (i + 1) := by
  obtain ⟨hl, e⟩ := List.getElem?_eq_some_iff.mp h
  rw [List.drop_eq_getElem_cons hl, e]
theorem behD_of {v : Way} {s : T} {a i : Nat} {q : T × T} (h : stretch v (s.drop a) = some q) (h2 : q.2 = s.drop i) (hi : i ≤ s.length) : behD v s a = .int (i : Int) := by
  unfold behD
  rw [h]
  show D.int _ = _
  rw [h2, List.length_drop]
  congr 2; omega
theorem stretch_plain {v : Way} (hv : v = .word ∨ v = .plain ∨ v = .line) (s : T) : stretch v s = some (spn (fun c => !decide (c ∈ ends v)) s) := by
  rcases hv with rfl | rfl | rfl <;> (unfold stretch; split <;> first | rfl | simp_all)
theorem get_of_lt {s : T} {i : Nat} (h : (i : Int) < (s.length : Int)) : ∃ c, s[i]? = some c := ⟨_, List.getElem?_eq_getElem (by omega)⟩
section
variable {P : Program} {w : World} {K : PySem.W.Frag} {mg : Str → Option Value} {base : Heap} {f : Addr} {fd : FuncData} {wc : Way → Addr} {nf : Addr} {k : Nat}
theorem ok_Way_coded {v : Way} (fx : Fx K mg wc nf) (F : FnP K "coded" "Way.coded" s_Way_coded f fd) (cl : Cls K (wc v)) (Mf : Me P w K mg base (wc v) "fits" ["self", "value"] k (spA K wc nf (cFits v))) (Mm : Me P w K mg base (wc v) "marked" ["self", "value"] k (spA K wc nf (cMarked v))) :
    FnOk P w K mg base (L2.CX P w) (k + 1) f fd ["self", "value"] (spA K wc nf (cCoded v)) := by
  refine F.ok sc_Way_coded (spA_len fun a _ => rfl) fun cdv A outer s H vs Q E hr h => ?_
  obtain ⟨x, pre, go⟩ := pure_A (N := N_Way_coded) (fun a _ => by simp [cCoded]) h
  have pre : fits v x = true := pre
  refine ⟨_, (pss_cons (ps_if (pt_not (pt_val (pe_me cl Mf hr (by omega) passL (pv 0) (pa_cons (pv 1) pa_nil))))
  (pss_one ps_never)
  pss_nil)
  (pss_one (ps_ret (pe_me cl Mm hr (by omega) passL (pv 0) (pa_cons (pv 1) pa_nil))))), go _ (?_ : wS _ _ ⟨[some (.val (.way v)), some (.val (vlD x))], none, 0⟩ _)⟩
  try dsimp only [L2.cxOf]
  repeat' walk_at "w"
  refine ⟨x, kd_of pre, rfl, fun d hd => ?_, fun _ => id⟩
  rw [hd]
  refine ⟨_, rfl, ?_⟩
  rw [pre]
  repeat' walk_at "w"
  refine ⟨x, pre, rfl, fun d hd => ?_, fun _ => id⟩
  repeat' walk_at "w"
  exact hd
theorem ok_Way_behind {v : Way} (hv : v = .word ∨ v = .plain ∨ v = .line) (fx : Fx K mg wc nf) (F : FnP K "behind" "Way.behind" s_Way_behind f fd) (cl : Cls K (wc v)) (Me_ : Me P w K mg base (wc v) "ends" ["self"] k (spA K wc nf (cEnds v))) :
    FnOk P w K mg base (L2.CX P w) (k + 1) f fd ["self", "text", "at"] (spA K wc nf (cBehind v)) := by
  refine F.ok sc_Way_behind (spA_len fun a _ => rfl) fun cdv A outer s H vs Q E hr h => ?_
  obtain ⟨⟨t, n⟩, pre, go⟩ := pure_A (N := N_Way_behind) (fun a _ => by simp [cBehind]) h
  obtain ⟨hl, hn⟩ : t.length ≤ 16000000 ∧ n ≤ t.length := pre
  refine ⟨_, (pss_cons (ps_set (i := 3) sc_Way_behind.nd rfl (Or.inl rfl) (pe_me0 cl Me_ hr (by omega) passL (pv 0)))
  (pss_cons (ps_while (passes_of rfl) (PW.pt (pw_and (pt_cmpR op_lt (pv 2) (pe_callB call_len_str (by rfl) fx.b_len bb_len (pa_cons (pv 1) pa_nil)) (nomark _)) (pw_and1 (pt_cmpR op_notIn_sign (pe_ix ix_str (pv 1) (pv 2) (fun _ _ => rfl)) (pv 3) rfl))))
  (pss_one (ps_set (i := 2) sc_Way_behind.nd rfl (Or.inl rfl) (pe_op op_add (pv 2) pe_int))))
  (pss_one (ps_ret (pv 2))))), go _ (?_ : wS _ _ ⟨[some (.val (.way v)), some (.val (.str t)), some (.val (.int n)), none], none, 0⟩ _)⟩
  try dsimp only [L2.cxOf]
  repeat' walk_at "w"
  refine ⟨(), trivial, rfl, fun d hd => ?_, fun _ => id⟩
  rw [hd]
  repeat' walk_at "w"
  refine wS_while ⟨fun m δ => ∃ i : Nat, i ≤ t.length ∧ (spn (fun c => !decide (c ∈ ends v)) (t.drop i)).2 = (spn (fun c => !decide (c ∈ ends v)) (t.drop n)).2 ∧ m = t.length - i ∧ δ = ⟨[some (.val (.way v)), some (.val (.str t)), some (.val (.int i)), some (.val (.str (ends v)))], none, 0⟩,
    ⟨_, n, hn, rfl, rfl, rfl⟩, ?_⟩
  rintro m δ ⟨i, hi, he, rfl, rfl⟩
  have fin : ∀ j, j = i → (spn (fun c => !decide (c ∈ ends v)) (t.drop i)).2 = t.drop i → D.int (j : Int) = behD v t n := fun j hj e => by
    subst hj
    exact (behD_of (stretch_plain hv _) (by rw [← he, e]) hi).symm
  repeat' walk_at "w"
  · omega
  refine ite_b (fun hb => ?_) fun hb => ?_
  · obtain ⟨c, hc⟩ := get_of_lt (by simpa using hb)
    repeat' walk_at "w"
    refine wR_ixS (by omega) rfl hc ?_
    repeat' walk_at "w"
    have st := spn_step (p := fun c => !decide (c ∈ ends v)) hc
    refine ite_b (fun hb2 => ?_) fun hb2 => ?_
    · repeat' walk_at "w"
      rw [if_pos hb2] at st
      have := (List.getElem?_eq_some_iff.mp hc).1
      exact ⟨t.length - (i + 1), by omega, i + 1, by omega, by rw [← he, st], rfl, rfl⟩
    · repeat' walk_at "w"
      rw [if_neg (by rw [hb2]; simp)] at st
      exact fin i rfl (by rw [st])
  · repeat' walk_at "w"
    have : t.length ≤ i := by simpa using hb
    exact fin i rfl (by rw [spn_end this, List.drop_eq_nil_of_le this])
theorem ok_Number_behind (fx : Fx K mg wc nf) (F : FnP K "behind" "Number.behind" s_Number_behind f fd) :
    FnOk P w K mg base (L2.CX P w) (k + 1) f fd ["self", "text", "at"] (spA K wc nf (cBehind .number)) := by
  refine F.ok sc_Number_behind (spA_len fun a _ => rfl) fun cdv A outer s H vs Q E hr h => ?_
  obtain ⟨⟨t, n⟩, pre, go⟩ := pure_A (N := N_Number_behind) (fun a _ => by simp [cBehind]) h
  obtain ⟨hl, hn⟩ : t.length ≤ 16000000 ∧ n ≤ t.length := pre
  refine ⟨_, (pss_cons (ps_if (pt_cmpR op_eq (pe_slice sl_str (pv 1) (po_some (pv 2)) (po_some (pe_op op_add (pv 2) pe_int))) pe_str (nomark _))
  (pss_one (ps_set (i := 2) sc_Number_behind.nd rfl (Or.inl rfl) (pe_op op_add (pv 2) pe_int)))
  pss_nil)
  (pss_cons (ps_while (passes_of rfl) (PW.pt (pw_and (pt_cmpR op_lt (pv 2) (pe_callB call_len_str (by rfl) fx.b_len bb_len (pa_cons (pv 1) pa_nil)) (nomark _)) (pw_and1 (pt_cmpR op_in_sign (pe_ix ix_str (pv 1) (pv 2) (fun _ _ => rfl)) (C8.pe_gc rfl fx.gFIGURES) rfl))))
  (pss_one (ps_set (i := 2) sc_Number_behind.nd rfl (Or.inl rfl) (pe_op op_add (pv 2) pe_int))))
  (pss_one (ps_ret (pv 2))))), go _ (?_ : wS _ _ ⟨[some (.val (.way .number)), some (.val (.str t)), some (.val (.int n))], none, 0⟩ _)⟩
  try dsimp only [L2.cxOf]
  refine wS_cut (I := fun δ => ∃ j x : _, j ≤ t.length ∧ stretch .number (t.drop n) = some (x, (spn (fun c => decide (c ∈ FIG)) (t.drop j)).2) ∧ δ = ⟨[some (.val (.way .number)), some (.val (.str t)), some (.val (.int (j : Nat)))], none, 0⟩) ?_ ?_
  · repeat' walk_at "w"
    · omega
    rw [cut_one]
    refine ite_b (fun hb => ?_) fun hb => ?_
    · have hb' : (t.drop n).take 1 = cs "-" := by simpa using hb
      have hc : t[n]? = some 45 := take_one.mp (show (t.drop n).take 1 = [45] from hb')
      have := (List.getElem?_eq_some_iff.mp hc).1
      repeat' walk_at "w"
      exact ⟨n + 1, _, by omega, by rw [drop_cons hc]; rfl, rfl⟩
    · have hc : ¬ t[n]? = some 45 := fun z => by
        have := take_one.mpr z
        have hb' : ¬ (t.drop n).take 1 = cs "-" := by simpa using hb
        exact hb' this
      repeat' walk_at "w"
      refine ⟨n, (spn (fun c => decide (c ∈ FIG)) (t.drop n)).1, hn, ?_, rfl⟩
      have : ∀ u : T, u.head? ≠ some 45 → stretch .number u = some (spn (fun c => decide (c ∈ FIG)) u) := fun u hu => by
        cases u with
        | nil => rfl
        | cons c u =>
          have : c ≠ 45 := fun z => hu (by rw [z]; rfl)
          unfold stretch; split <;> simp_all
      rw [this _ (by rw [List.head?_drop]; exact hc)]
  · rintro δ ⟨j0, x, hj0, hst, rfl⟩
    repeat' walk_at "w"
    refine wS_while ⟨fun m δ => ∃ i : Nat, i ≤ t.length ∧ (spn (fun c => decide (c ∈ FIG)) (t.drop i)).2 = (spn (fun c => decide (c ∈ FIG)) (t.drop j0)).2 ∧ m = t.length - i ∧ δ = ⟨[some (.val (.way .number)), some (.val (.str t)), some (.val (.int i))], none, 0⟩,
      ⟨_, j0, hj0, rfl, rfl, rfl⟩, ?_⟩
    rintro m δ ⟨i, hi, he, rfl, rfl⟩
    have fin : (spn (fun c => decide (c ∈ FIG)) (t.drop i)).2 = t.drop i → D.int (i : Int) = behD .number t n := fun e =>
      (behD_of hst (by rw [← e, ← he]) hi).symm
    repeat' walk_at "w"
    · omega
    refine ite_b (fun hb => ?_) fun hb => ?_
    · obtain ⟨c, hc⟩ := get_of_lt (by simpa using hb)
      repeat' walk_at "w"
      refine wR_ixS (by omega) rfl hc ?_
      repeat' walk_at "w"
      rw [figures_cps]
      have st := spn_step (p := fun c => decide (c ∈ FIG)) hc
      refine ite_b (fun hb2 => ?_) fun hb2 => ?_
      · repeat' walk_at "w"
        rw [if_pos hb2] at st
        have := (List.getElem?_eq_some_iff.mp hc).1
        exact ⟨t.length - (i + 1), by omega, i + 1, by omega, by rw [← he, st], rfl, rfl⟩
      · repeat' walk_at "w"
        rw [if_neg (by rw [hb2]; simp)] at st
        exact fin (by rw [st])
    · repeat' walk_at "w"
      have : t.length ≤ i := by simpa using hb
      exact fin (by rw [spn_end this, List.drop_eq_nil_of_le this])
theorem ok_Quoted_behind (fx : Fx K mg wc nf) (F : FnP K "behind" "Quoted.behind" s_Quoted_behind f fd) :
    FnOk P w K mg base (L2.CX P w) (k + 1) f fd ["self", "text", "at"] (spA K wc nf (cBehind .quoted)) := by
  refine F.ok sc_Quoted_behind (spA_len fun a _ => rfl) fun cdv A outer s H vs Q E hr h => ?_
  obtain ⟨⟨t, n⟩, pre, go⟩ := pure_A (N := N_Quoted_behind) (fun a _ => by simp [cBehind]) h
  obtain ⟨hl, hn⟩ : t.length ≤ 16000000 ∧ n ≤ t.length := pre
  refine ⟨_, (pss_cons (ps_if (pt_cmpR op_ne (pe_slice sl_str (pv 1) (po_some (pv 2)) (po_some (pe_op op_add (pv 2) pe_int))) pe_str (nomark _))
  (pss_one (ps_ret pe_non))
  pss_nil)
  (pss_cons (ps_set (i := 3) sc_Quoted_behind.nd rfl (Or.inl rfl) (pe_bm PySem.F.plainAttrs_str PySem.F.slot_str_find PySem.F.type_str_find mt_find3 (pv 1) (pa_cons pe_str (pa_cons (pe_op op_add (pv 2) pe_int) pa_nil))))
  (pss_cons (ps_if (pt_cmpR op_lt (pv 3) pe_int (nomark _))
  (pss_one (ps_ret pe_non))
  pss_nil)
  (pss_one (ps_ret (pe_op op_add (pv 3) pe_int)))))), go _ (?_ : wS _ _ ⟨[some (.val (.way .quoted)), some (.val (.str t)), some (.val (.int n)), none], none, 0⟩ _)⟩
  try dsimp only [L2.cxOf]
  repeat' walk_at "w"
  · omega
  rw [cut_one]
  refine ite_b (fun hb => ?_) fun hb => ?_
  · repeat' walk_at "w"
    have hc : ¬ t[n]? = some 34 := fun z => by
      have hb' : ¬ (t.drop n).take 1 = cs "\"" := by simpa using hb
      exact hb' (take_one.mpr z)
    show D.non = behD .quoted t n
    unfold behD
    have : ∀ u : T, u.head? ≠ some 34 → stretch .quoted u = none := fun u hu => by
      cases u with
      | nil => rfl
      | cons c u =>
        have : c ≠ 34 := fun z => hu (by rw [z]; rfl)
        unfold stretch; split <;> simp_all
    rw [this _ (by rw [List.head?_drop]; exact hc)]
  · have hb' : (t.drop n).take 1 = cs "\"" := by simpa using hb
    have hc : t[n]? = some 34 := take_one.mp (show (t.drop n).take 1 = [34] from hb')
    have hlt := (List.getElem?_eq_some_iff.mp hc).1
    have hd := drop_cons hc
    repeat' walk_at "w"
    have e1 : (n : Int) + 1 = ((n + 1 : Nat) : Int) := by omega
    rcases find_list (s := t) (i := n + 1) (by omega) with ⟨e2, e3⟩ | ⟨j, e2, e3, e4, e5, e6⟩
    · have e2' : Txt.find3 (S t) (S (cs "\"")) ((n : Int) + 1) = -1 := by rw [e1]; exact e2
      rw [e2']
      repeat' walk_at "w"
      repeat' walk_at "w"
      show D.non = behD .quoted t n
      unfold behD
      have : stretch .quoted (t.drop n) = none := by
        rw [hd]
        show (match (spn (fun c => decide (c ≠ 34)) (t.drop (n + 1))).2 with
          | [] => none
          | d :: r' => some (34 :: ((spn (fun c => decide (c ≠ 34)) (t.drop (n + 1))).1 ++ [d]), r')) = none
        rw [e3]
      rw [this]
    · have e2' : Txt.find3 (S t) (S (cs "\"")) ((n : Int) + 1) = (j : Int) := by rw [e1]; exact e2
      rw [e2']
      repeat' walk_at "w"
      have hst : stretch .quoted (t.drop n) = some (34 :: ((spn (fun c => decide (c ≠ 34)) (t.drop (n + 1))).1 ++ [34]), t.drop (j + 1)) := by
        rw [hd]
        show (match (spn (fun c => decide (c ≠ 34)) (t.drop (n + 1))).2 with
          | [] => none
          | d :: r' => some (34 :: ((spn (fun c => decide (c ≠ 34)) (t.drop (n + 1))).1 ++ [d]), r')) = _
        rw [e5]
        show (match t.drop j with
          | [] => none
          | d :: r' => some (34 :: ((t.drop (n + 1)).take (j - (n + 1)) ++ [d]), r')) = _
        rw [drop_cons e6]
      have := behD_of hst rfl (i := j + 1) (by omega)
      show D.int ((j : Int) + 1) = behD .quoted t n
      rw [this]; congr 1
theorem ok_Way_meant (fx : Fx K mg wc nf) (F : FnP K "meant" "Way.meant" s_Way_meant f fd) : FnOk P w K mg base (L2.CX P w) (k + 1) f fd ["self", "stretch"] (spA K wc nf (cMeant .word)) := by
  refine F.ok sc_Way_meant (spA_len fun a _ => rfl) fun cdv A outer s H vs Q E hr h => ?_
  obtain ⟨t, pre, go⟩ := pure_A (N := N_Way_meant) (fun a _ => by simp [cMeant]) h
  refine ⟨_, (pss_one (ps_ret (pe_tup (pa_cons (pv 1) pa_nil)))), go _ (?_ : wS _ _ ⟨[some (.val (.way .word)), some (.val (.str t))], none, 0⟩ _)⟩
  try dsimp only [L2.cxOf]
  repeat' walk_at "w"
  exact ⟨by simp, rfl⟩
theorem ok_Number_meant (fx : Fx K mg wc nf) (F : FnP K "meant" "Number.meant" s_Number_meant f fd) : FnOk P w K mg base (L2.CX P w) (k + 1) f fd ["self", "stretch"] (spA K wc nf (cMeant .number)) := by
  refine F.ok sc_Number_meant (spA_len fun a _ => rfl) fun cdv A outer s H vs Q E hr h => ?_
  obtain ⟨t, pre, go⟩ := pure_A (N := N_Number_meant) (fun a _ => by simp [cMeant]) h
  obtain ⟨hl, u, r, hst⟩ : t.length ≤ 16000000 ∧ ∃ s r, stretch .number s = some (t, r) := pre
  obtain ⟨hd, hsh⟩ := stretch_num hst
  have hl2 : (lstripM t).length ≤ 16000000 := by rw [lstripM_take, List.length_drop]; omega
  have no : lstripM t = [] ∨ 30 < (lstripM t).length → D.tup [] = vlsD (meant .number t) := fun q => by
    show _ = vlsD (if lstripM t = [] ∨ 30 < (lstripM t).length then none else some (.num (intOf t)))
    rw [if_pos q]; rfl
  refine ⟨_, (pss_cons (ps_set (i := 2) sc_Number_meant.nd rfl (Or.inl rfl) (pe_bm PySem.F.plainAttrs_str PySem.F.slot_str_lstrip PySem.F.type_str_lstrip mt_lstripChars (pv 1) (pa_cons pe_str pa_nil)))
  (pss_cons (ps_if (PW.pt (pw_or (pt_cmpR op_eq (pv 2) pe_str (nomark _)) (pw_or1 (pt_cmpR op_gt (pe_callB call_len_str (by rfl) fx.b_len bb_len (pa_cons (pv 2) pa_nil)) pe_int (nomark _)))))
  (pss_one (ps_ret (pe_tup pa_nil)))
  pss_nil)
  (pss_one (ps_ret (pe_tup (pa_cons (pe_callTy call_int_str (by rfl) fx.b_int bb_int (pa_cons (pv 1) pa_nil)) pa_nil)))))), go _ (?_ : wS _ _ ⟨[some (.val (.way .number)), some (.val (.str t)), none], none, 0⟩ _)⟩
  try dsimp only [L2.cxOf]
  repeat' walk_at "w"
  refine ⟨by omega, ?_⟩
  repeat' walk_at "w"
  rw [show (Txt.lstripChars (S t) (S (Str.ofString "-").cps.toList)).cps.toList = lstripM t from lstrip_list t]
  refine ite_b (fun hb => ?_) fun hb => ?_
  · repeat' walk_at "w"
    refine ⟨by simp, ?_⟩
    exact no (.inl (by
      have z : lstripM t = cs "" := by simpa using hb
      exact z))
  · repeat' walk_at "w"
    · omega
    have h1 : lstripM t ≠ [] := by
      intro z; rw [z] at hb; exact absurd hb (by decide)
    refine ite_b (fun hb2 => ?_) fun hb2 => ?_
    · repeat' walk_at "w"
      refine ⟨by simp, ?_⟩
      exact no (.inr (by have : (30 : Int) < (lstripM t).length := by simpa using hb2
                         omega))
    · have h2 : (lstripM t).length ≤ 30 := by
        have : ¬ (30 : Int) < (lstripM t).length := by simpa using hb2
        omega
      obtain ⟨g1, g2⟩ := intText_st hd hsh h1 h2
      repeat' walk_at "w"
      refine wC_intS g1 g2 ?_
      repeat' walk_at "w"
      refine ⟨by simp, ?_⟩
      show _ = vlsD (if lstripM t = [] ∨ 30 < (lstripM t).length then none else some (.num (intOf t)))
      rw [if_neg (by intro z; rcases z with z | z; exact h1 z; omega)]; rfl
end

/-! W5: unmarked; the ways' meant and read. -/
theorem lk_tld (l : List (Nat × Nat)) (d : Nat) : lkD (tld l) [d] = (l.lookup d).map fun x => [x] := by
  induction l with
  | nil => rfl
  | cons q l ih =>
    obtain ⟨a, b⟩ := q
    unfold lkD tld at *
    simp only [List.map_cons, List.find?_cons, List.lookup_cons]
    by_cases h : d = a
    · subst h; simp
    · have h1 : (d == a) = false := by simpa using h
      have h2 : decide (([a] : T) = [d]) = false := by simpa using (Ne.symm h)
      rw [h1, h2]; exact ih
theorem lk_tld0 (l : List (Nat × Nat)) : lkD (tld l) [] = none := by
  induction l with
  | nil => rfl
  | cons q l ih =>
    unfold lkD tld at *
    simp only [List.map_cons, List.find?_cons]
    exact ih
theorem unm_cons {m : Nat} {l : List (Nat × Nat)} {c : Nat} {r : T} (h : c ≠ m) : unm m l (c :: r) = (unm m l r).map (c :: ·) := by
  conv => lhs; unfold unm
  rw [if_neg h]
theorem unm_hit {m : Nat} {l : List (Nat × Nat)} {d x : Nat} {r : T} (h : l.lookup d = some x) : unm m l (m :: d :: r) = (unm m l r).map (x :: ·) := by
  conv => lhs; unfold unm
  rw [if_pos rfl]; simp only [h]
theorem unm_no {m : Nat} {l : List (Nat × Nat)} {d : Nat} {r : T} (h : l.lookup d = none) : unm m l (m :: d :: r) = none := by
  conv => lhs; unfold unm
  rw [if_pos rfl]; simp only [h]
theorem unm_end {m : Nat} {l : List (Nat × Nat)} : unm m l [m] = none := by unfold unm; rw [if_pos rfl]
section
variable {P : Program} {w : World} {K : PySem.W.Frag} {mg : Str → Option Value} {base : Heap} {f : Addr} {fd : FuncData} {wc : Way → Addr} {nf : Addr} {k : Nat}
theorem ok_unmarked (fx : Fx K mg wc nf) (F : FnP K "unmarked" "unmarked" s_unmarked f fd) : FnOk P w K mg base (L2.CX P w) (k + 1) f fd ["text", "mark", "told"] (spA K wc nf cUnm) := by
  refine F.ok sc_unmarked (spA_len fun a _ => rfl) fun cdv A outer s H vs Q E hr h => ?_
  obtain ⟨⟨t, m, l⟩, pre, go⟩ := pure_A (N := N_unmarked) (fun a _ => by simp [cUnm]) h
  have hl : t.length ≤ 16000000 := pre
  have hu := hu_of hr
  refine ⟨_, (pss_cons (ps_set (i := 3) sc_unmarked.nd rfl (Or.inl rfl) pe_str)
  (pss_cons (ps_set (i := 4) sc_unmarked.nd rfl (Or.inl rfl) pe_int)
  (pss_cons (ps_while (passes_of rfl) (pt_cmpR op_lt (pv 4) (pe_callB call_len_str (by rfl) fx.b_len bb_len (pa_cons (pv 0) pa_nil)) (nomark _))
  (pss_one (ps_if (pt_cmpR op_eq (pe_ix ix_str (pv 0) (pv 4) (fun _ _ => rfl)) (pv 1) (nomark _))
  (pss_cons (ps_set (i := 5) sc_unmarked.nd rfl (Or.inl rfl) (pe_dget2 hu (pv 2) (pe_slice sl_str (pv 0) (po_some (pe_op op_add (pv 4) pe_int)) (po_some (pe_op op_add (pv 4) pe_int))) pe_str ⟨rfl, rfl, rfl, rfl⟩))
  (pss_cons (ps_if (pt_cmpR op_eq (pv 5) pe_str (nomark _))
  (pss_one (ps_ret (pe_tup pa_nil)))
  pss_nil)
  (pss_cons (ps_set (i := 3) sc_unmarked.nd rfl (Or.inl rfl) (pe_op op_add_str (pv 3) (pv 5)))
  (pss_one (ps_set (i := 4) sc_unmarked.nd rfl (Or.inl rfl) (pe_op op_add (pv 4) pe_int))))))
  (pss_cons (ps_set (i := 3) sc_unmarked.nd rfl (Or.inl rfl) (pe_op op_add_str (pv 3) (pe_ix ix_str (pv 0) (pv 4) (fun _ _ => rfl))))
  (pss_one (ps_set (i := 4) sc_unmarked.nd rfl (Or.inl rfl) (pe_op op_add (pv 4) pe_int)))))))
  (pss_one (ps_ret (pe_tup (pa_cons (pv 3) pa_nil))))))), go _ (?_ : wS _ _ ⟨[some (.val (.str t)), some (.val (.str [m])), some (.val (.dic (tld l))), none, none, none], none, 0⟩ _)⟩
  try dsimp only [L2.cxOf]
  repeat' walk_at "w"
  refine wS_nx (I := fun δ => δ.sl[3]? = some (some (.val (.str ((unm m l t).getD [])))) ∧ unm m l t ≠ none) ?_ ?_
  · refine wS_while ⟨fun n δ => ∃ (i : Nat) (u : T) (o : Option Cell), i ≤ t.length ∧ u.length ≤ i ∧ unm m l t = (unm m l (t.drop i)).map (u ++ ·) ∧ n = t.length - i ∧ δ = ⟨[some (.val (.str t)), some (.val (.str [m])), some (.val (.dic (tld l))), some (.val (.str u)), some (.val (.int i)), o], none, 0⟩,
      ⟨_, 0, [], none, by omega, by simp, by simp, rfl, rfl⟩, ?_⟩
    rintro n δ ⟨i, u, o, hi, hul, he, rfl, rfl⟩
    repeat' walk_at "w"
    · omega
    refine ite_b (fun hb => ?_) fun hb => ?_
    · obtain ⟨c, hc⟩ := get_of_lt (by simpa using hb)
      have hd := drop_cons hc
      have hlt := (List.getElem?_eq_some_iff.mp hc).1
      repeat' walk_at "w"
      refine wR_ixS (by omega) rfl hc ?_
      repeat' walk_at "w"
      refine ite_b (fun hb2 => ?_) fun hb2 => ?_
      · have hcm : c = m := by simpa using hb2
        subst hcm
        repeat' walk_at "w"
        · omega
        have e1 : (i : Int) + 2 = ((i + 1 : Nat) : Int) + 1 := by omega
        have e0 : (i : Int) + 1 = ((i + 1 : Nat) : Int) := by omega
        rw [e1, e0, cut_one]
        cases hdd : t[i + 1]? with
        | none =>
          have hnil : t.drop (i + 1) = [] := List.drop_eq_nil_of_le (List.getElem?_eq_none_iff.mp hdd)
          rw [hnil, show List.take 1 ([] : T) = [] from rfl]
          rw [lk_tld0]
          repeat' walk_at "w"
          refine ⟨by simp, ?_⟩
          show _ = unmD (unm c l t)
          rw [he, hd, hnil, unm_end]; rfl
        | some d =>
          rw [take_one.mpr hdd]
          rw [lk_tld]
          cases hlk : l.lookup d with
          | none =>
            repeat' walk_at "w"
            refine ⟨by simp, ?_⟩
            show _ = unmD (unm c l t)
            rw [he, hd, drop_cons hdd, unm_no hlk]; rfl
          | some x =>
            have hlt2 := (List.getElem?_eq_some_iff.mp hdd).1
            repeat' walk_at "w"
            · show u.length + ([x] : T).length ≤ _
              simp; omega
            refine ⟨t.length - (i + 2), by omega, i + 2, u ++ [x], _, by omega, by simp; omega, ?_, rfl, rfl⟩
            rw [he, hd, drop_cons hdd, unm_hit hlk, Option.map_map]
            congr 1; funext z; simp
      · have hcm : c ≠ m := by simpa using hb2
        repeat' walk_at "w"
        refine wR_ixS (by omega) rfl hc ?_
        repeat' walk_at "w"
        · show u.length + ([c] : T).length ≤ _
          simp; omega
        refine ⟨t.length - (i + 1), by omega, i + 1, u ++ [c], _, by omega, by simp; omega, ?_, rfl, rfl⟩
        rw [he, hd, unm_cons hcm, Option.map_map]
        congr 1; funext z; simp
    · have : t.length ≤ i := by simpa using hb
      have e : unm m l t = some u := by rw [he, List.drop_eq_nil_of_le this]; simp [unm]
      repeat' walk_at "w"
      refine ⟨?_, by rw [e]; simp⟩
      rw [e]; rfl
  · rintro δ ⟨e, hne⟩
    repeat' walk_at "w"
    refine wE_var e ?_
    repeat' walk_at "w"
    refine ⟨by simp, ?_⟩
    show _ = unmD (unm m l t)
    cases h : unm m l t with
    | none => exact absurd h hne
    | some x => rfl
theorem unm_vls {mk : Nat} {l : List (Nat × Nat)} {t : T} : unmD (unm mk l t) = vlsD ((unm mk l t).map .txt) := by
  cases unm mk l t <;> rfl
theorem ok_Plain_meant (fx : Fx K mg wc nf) (F : FnP K "meant" "Plain.meant" s_Plain_meant f fd) (G : Fn P w K mg base "unmarked" ["text", "mark", "told"] k (spA K wc nf cUnm)) : FnOk P w K mg base (L2.CX P w) (k + 1) f fd ["self", "stretch"] (spA K wc nf (cMeant .plain)) := by
  refine F.ok sc_Plain_meant (spA_len fun a _ => rfl) fun cdv A outer s H vs Q E hr h => ?_
  obtain ⟨t, pre, go⟩ := pure_A (N := N_Plain_meant) (fun a _ => by simp [cMeant]) h
  refine ⟨_, (pss_one (ps_ret (pe_fn G hr (by omega) rfl passL (pa_cons (pv 1) (pa_cons pe_str (pa_cons (pe_disp (pps_cons pe_str pe_str (pps_cons pe_str pe_str (pps_cons pe_str pe_str (pps_cons pe_str pe_str (pps_cons pe_str pe_str (pps_cons pe_str pe_str pps_nil)))))) rfl rfl (fun z => by cases z) (by decide)) pa_nil)))))), go _ (?_ : wS _ _ ⟨[some (.val (.way .plain)), some (.val (.str t))], none, 0⟩ _)⟩
  try dsimp only [L2.cxOf]
  repeat' walk_at "w"
  refine wE_disp (.cons (.cons (.cons (.cons (.cons (.cons .nil)))))) (by decide) rfl ?_
  repeat' walk_at "w"
  refine ⟨(t, 126, toldP), pre.1, rfl, fun d hd => ?_, fun _ => id⟩
  repeat' walk_at "w"
  exact hd.trans unm_vls
theorem ok_Line_meant (fx : Fx K mg wc nf) (F : FnP K "meant" "Line.meant" s_Line_meant f fd) (G : Fn P w K mg base "unmarked" ["text", "mark", "told"] k (spA K wc nf cUnm)) : FnOk P w K mg base (L2.CX P w) (k + 1) f fd ["self", "stretch"] (spA K wc nf (cMeant .line)) := by
  refine F.ok sc_Line_meant (spA_len fun a _ => rfl) fun cdv A outer s H vs Q E hr h => ?_
  obtain ⟨t, pre, go⟩ := pure_A (N := N_Line_meant) (fun a _ => by simp [cMeant]) h
  refine ⟨_, (pss_one (ps_ret (pe_fn G hr (by omega) rfl passL (pa_cons (pv 1) (pa_cons pe_str (pa_cons (pe_disp (pps_cons pe_str pe_str (pps_cons pe_str pe_str pps_nil)) rfl rfl (fun z => by cases z) (by decide)) pa_nil)))))), go _ (?_ : wS _ _ ⟨[some (.val (.way .line)), some (.val (.str t))], none, 0⟩ _)⟩
  try dsimp only [L2.cxOf]
  repeat' walk_at "w"
  refine wE_disp (.cons (.cons .nil)) (by decide) rfl ?_
  repeat' walk_at "w"
  refine ⟨(t, 126, toldL), pre.1, rfl, fun d hd => ?_, fun _ => id⟩
  repeat' walk_at "w"
  exact hd.trans unm_vls
theorem ok_Quoted_meant (fx : Fx K mg wc nf) (F : FnP K "meant" "Quoted.meant" s_Quoted_meant f fd) (G : Fn P w K mg base "unmarked" ["text", "mark", "told"] k (spA K wc nf cUnm)) : FnOk P w K mg base (L2.CX P w) (k + 1) f fd ["self", "stretch"] (spA K wc nf (cMeant .quoted)) := by
  refine F.ok sc_Quoted_meant (spA_len fun a _ => rfl) fun cdv A outer s H vs Q E hr h => ?_
  obtain ⟨t, pre, go⟩ := pure_A (N := N_Quoted_meant) (fun a _ => by simp [cMeant]) h
  have hl : t.length ≤ 16000000 := pre.1
  refine ⟨_, (pss_one (ps_ret (pe_fn G hr (by omega) rfl passL (pa_cons (pe_slice sl_str (pv 1) (po_some pe_int) (po_some (pe_un un_neg pe_int))) (pa_cons pe_str (pa_cons (pe_disp (pps_cons pe_str pe_str (pps_cons pe_str pe_str (pps_cons pe_str pe_str pps_nil))) rfl rfl (fun z => by cases z) (by decide)) pa_nil)))))), go _ (?_ : wS _ _ ⟨[some (.val (.way .quoted)), some (.val (.str t))], none, 0⟩ _)⟩
  try dsimp only [L2.cxOf]
  repeat' walk_at "w"
  · omega
  refine wE_disp (.cons (.cons (.cons .nil))) (by decide) rfl ?_
  repeat' walk_at "w"
  refine ⟨((t.drop 1).dropLast, 94, toldQ), (by show ((t.drop 1).dropLast).length ≤ 16000000; simp; omega), ?_, fun d hd => ?_, fun _ => id⟩
  · rw [show cutT t (some 1) (some (-1)) = (t.drop 1).dropLast from cut_inner]; rfl
  · repeat' walk_at "w"
    exact hd.trans unm_vls
end

/-! W6: a way's read. -/
theorem unm_len {m : Nat} {l : List (Nat × Nat)} : ∀ (n : Nat) {t x : T}, t.length ≤ n → unm m l t = some x → x.length ≤ t.length
  | _, [], x, _, h => by simp [unm] at h; simp [← h]
  | 0, c :: r, x, hn, _ => by simp at hn
  | n + 1, c :: r, x, hn, h => by
    have hn' : r.length ≤ n := by simpa using hn
    by_cases hc : c = m
    · subst hc
      cases r with
      | nil => rw [unm_end] at h; cases h
      | cons d r =>
        cases hl : l.lookup d with
        | none => rw [unm_no hl] at h; cases h
        | some y =>
          rw [unm_hit hl] at h
          obtain ⟨z, hz, rfl⟩ := Option.map_eq_some_iff.mp h
          have := unm_len n (by simp at hn'; omega) hz
          simp; omega
    · rw [unm_cons hc] at h
      obtain ⟨z, hz, rfl⟩ := Option.map_eq_some_iff.mp h
      have := unm_len n hn' hz
      simp; omega
theorem meant_kd {v : Way} {st : T} {x : Vl} (hl : st.length ≤ 16777216) (h : meant v st = some x) : kd v x := by
  have un : ∀ (m : Nat) (l : List (Nat × Nat)) (u : T), u.length ≤ st.length → (unm m l u).map Vl.txt = some x → ∃ y, x = .txt y ∧ y.length ≤ 16777216 := fun m l u hu e => by
    obtain ⟨z, hz, rfl⟩ := Option.map_eq_some_iff.mp e
    have := unm_len _ (Nat.le_refl _) hz
    exact ⟨z, rfl, by omega⟩
  cases v with
  | word => cases h; exact hl
  | number =>
    have h : (if lstripM st = [] ∨ 30 < (lstripM st).length then none else some (Vl.num (intOf st))) = some x := h
    split at h
    · cases h
    · cases h; trivial
  | quoted =>
    obtain ⟨y, rfl, hy⟩ := un 94 toldQ (st.drop 1).dropLast (by simp; omega) h
    exact hy
  | plain =>
    obtain ⟨y, rfl, hy⟩ := un 126 toldP st (Nat.le_refl _) h
    exact hy
  | line =>
    obtain ⟨y, rfl, hy⟩ := un 126 toldL st (Nat.le_refl _) h
    exact hy
section
variable {P : Program} {w : World} {K : PySem.W.Frag} {mg : Str → Option Value} {base : Heap} {f : Addr} {fd : FuncData} {wc : Way → Addr} {nf : Addr} {k : Nat}
theorem ok_Way_read {v : Way} (fx : Fx K mg wc nf) (F : FnP K "read" "Way.read" s_Way_read f fd) (cl : Cls K (wc v)) (Mb : Me P w K mg base (wc v) "behind" ["self", "text", "at"] k (spA K wc nf (cBehind v)))
    (Mn : Me P w K mg base (wc v) "meant" ["self", "stretch"] k (spA K wc nf (cMeant v))) (Mf : Me P w K mg base (wc v) "fits" ["self", "value"] k (spA K wc nf (cFits v))) (Mm : Me P w K mg base (wc v) "marked" ["self", "value"] k (spA K wc nf (cMarked v))) :
    FnOk P w K mg base (L2.CX P w) (k + 1) f fd ["self", "text", "at"] (spA K wc nf (cRead v)) := by
  refine F.ok sc_Way_read (spA_len fun a _ => rfl) fun cdv A outer s H vs Q E hr h => ?_
  obtain ⟨⟨t, n⟩, pre, go⟩ := pure_A (N := N_Way_read) (fun a _ => by simp [cRead]) h
  obtain ⟨hl, hn⟩ : t.length ≤ 16000000 ∧ n ≤ t.length := pre
  refine ⟨_, (pss_cons (ps_set (i := 3) sc_Way_read.nd rfl (Or.inl rfl) (pe_me cl Mb hr (by omega) passL (pv 0) (pa_cons (pv 1) (pa_cons (pv 2) pa_nil))))
  (pss_cons (ps_if (pt_cmpR op_isN (pv 3) pe_non (nomark _))
  (pss_one (ps_ret pe_non))
  pss_nil)
  (pss_cons (ps_for (passes_of rfl) (by rfl) (pi_tup (pe_me cl Mn hr (by omega) passL (pv 0) (pa_cons (pe_slice sl_str (pv 1) (po_some (pv 2)) (po_some (pv 3))) pa_nil))) (pg_name (i := 4) sc_Way_read.nd rfl (Or.inl rfl))
  (pss_one (ps_if (PW.pt (pw_and (pt_val (pe_me cl Mf hr (by omega) passL (pv 0) (pa_cons (pv 4) pa_nil))) (pw_and1 (pt_cmpR op_eq (pe_me cl Mm hr (by omega) passL (pv 0) (pa_cons (pv 4) pa_nil)) (pe_slice sl_str (pv 1) (po_some (pv 2)) (po_some (pv 3))) (nomark _)))))
  (pss_one (ps_ret (pe_tup (pa_cons (pv 4) (pa_cons (pv 3) pa_nil)))))
  pss_nil)))
  (pss_one (ps_ret pe_non))))), go _ (?_ : wS _ _ ⟨[some (.val (.way v)), some (.val (.str t)), some (.val (.int n)), none, none], none, 0⟩ _)⟩
  try dsimp only [L2.cxOf]
  repeat' walk_at "w"
  refine ⟨(t, n), ⟨hl, hn⟩, rfl, fun d hd => ?_, fun _ => id⟩
  rw [hd]
  show wS _ _ _ _
  unfold cRead
  dsimp only
  cases hst : stretch v (t.drop n) with
  | none =>
    have e : behD v t n = .non := by unfold behD; rw [hst]
    rw [e]
    repeat' walk_at "w"
    refine wR_isN .non ?_
    repeat' walk_at "w"
    unfold redD readW
    rw [hst]
  | some q =>
    obtain ⟨st, r⟩ := q
    have ha := stretch_app hst
    have hlen : t.length - n = st.length + r.length := by
      have := congrArg List.length ha
      rw [List.length_drop, List.length_append] at this; exact this
    have e : behD v t n = .int ((n + st.length : Nat) : Int) := behD_of hst (by rw [← List.drop_drop, ha, List.drop_left]) (by omega)
    have hcut : cutT t (some (n : Int)) (some ((n + st.length : Nat) : Int)) = st := by
      rw [cut_mid (by omega) (by omega), Int.toNat_natCast, Int.toNat_natCast, show n + st.length - n = st.length by omega, ha, List.take_left]
    rw [e]
    repeat' walk_at "w"
    refine wR_isN (.int _) ?_
    repeat' walk_at "w"

    · omega
    rw [hcut]
    refine ⟨st, ⟨by omega, _, _, hst⟩, rfl, fun d hd => ?_, fun _ => id⟩
    rw [hd]
    have hrd : readW v (t.drop n) = match meant v st with
        | none => none
        | some x => if fits v x = true ∧ marked v x = st then some (x, r) else none := by
      unfold readW; rw [hst] <;> rfl
    cases hm : meant v st with
    | none =>
      rw [hm] at hrd
      refine ⟨[], rfl, fun i δ => i = 0 ∧ δ = ⟨[some (.val (.way v)), some (.val (.str t)), some (.val (.int n)), some (.val (.int ((n + st.length : Nat) : Int))), none], none, 0⟩, ⟨rfl, rfl⟩, fun i d δ hd => by simp at hd, ?_⟩
      rintro δ ⟨_, rfl⟩
      repeat' walk_at "w"
      unfold redD; rw [hrd]
    | some x =>
      rw [hm] at hrd
      refine ⟨[vlD x], rfl, fun i δ => ∃ o, (i = 1 → readW v (t.drop n) = none) ∧ δ = ⟨[some (.val (.way v)), some (.val (.str t)), some (.val (.int n)), some (.val (.int ((n + st.length : Nat) : Int))), o], none, 0⟩, ⟨none, nofun, rfl⟩, ?_, ?_⟩
      · rintro i d δ hd ⟨o, -, rfl⟩
        have hi : i = 0 ∧ d = vlD x := by
          cases i with
          | zero => simp at hd; exact ⟨rfl, hd.symm⟩
          | succ i => simp at hd
        obtain ⟨rfl, rfl⟩ := hi
        have kdx := meant_kd (by omega) hm
        repeat' walk_at "w"
        refine ⟨x, kdx, rfl, fun d hd => ?_, fun _ => id⟩
        rw [hd]
        refine ⟨_, rfl, ?_⟩
        refine ite_b (fun hf => ?_) fun hf => ?_
        · repeat' walk_at "w"
          refine ⟨x, hf, rfl, fun d hd => ?_, fun _ => id⟩
          rw [hd]
          repeat' walk_at "w"
          · omega
          rw [hcut]
          refine ite_b (fun hq => ?_) fun hq => ?_
          · repeat' walk_at "w"
            refine ⟨by simp, ?_⟩
            have : marked v x = st := by simpa using hq
            unfold redD
            rw [hrd]
            simp only [hf, this, and_self, if_true]
            congr 3; congr 1; omega
          · repeat' walk_at "w"
            have : marked v x ≠ st := by simpa using hq
            exact ⟨_, fun _ => by rw [hrd]; simp [this], rfl⟩
        · repeat' walk_at "w"
          exact ⟨_, fun _ => by rw [hrd]; simp [hf], rfl⟩
      · rintro δ ⟨o, hno, rfl⟩
        repeat' walk_at "w"
        unfold redD; rw [hno rfl]
end

/-! W7: way_of; begins. -/
abbrev s_way_of : Stmt := top 26
abbrev N_way_of : List Str := ["word"]
theorem sc_way_of : FnScope N_way_of ["word"] (defScope s_way_of) := ⟨rfl, rfl, rfl, by decide +kernel, rfl, by decide +kernel, by decide +kernel⟩
abbrev s_loop_begins : Stmt := top 29
abbrev N_loop_begins : List Str := ["node", "found", "is_void"]
theorem sc_loop_begins : FnScope N_loop_begins ["node"] (defScope s_loop_begins) := ⟨rfl, rfl, rfl, by decide +kernel, rfl, by decide +kernel, by decide +kernel⟩
abbrev s_node_begins : Stmt := top 30
abbrev N_node_begins : List Str := ["node", "way", "one", "other"]
theorem sc_node_begins : FnScope N_node_begins ["node"] (defScope s_node_begins) := ⟨rfl, rfl, rfl, by decide +kernel, rfl, by decide +kernel, by decide +kernel⟩
abbrev s_begins : Stmt := top 31
abbrev N_begins : List Str := ["nodes", "found", "node", "more", "is_void"]
theorem sc_begins : FnScope N_begins ["nodes"] (defScope s_begins) := ⟨rfl, rfl, rfl, by decide +kernel, rfl, by decide +kernel, by decide +kernel⟩
def cWayOf : CtA Way := { args := fun v => [.str (wayS v)], post := fun v d => d = .way v }
def cBg (n : Nat) : CtA (List Node) := { args := fun ns => [FD ns], pre := fun ns => gdL ns ∧ dpL ns < n, post := fun ns d => d = foD (bgL ns []) }
def cNb (n : Nat) : CtA Node := { args := fun x => [ndN x], pre := fun x => gdN x ∧ dpN x < n, post := fun x d => d = foD (bgN x) }
def cLb (n : Nat) : CtA (T × List T × List Node × T) := { args := fun a => [ndN (.loop a.1 a.2.1 a.2.2.1 a.2.2.2)], pre := fun a => (gdL a.2.2.1 ∧ allSG a.2.2.2 = true ∧ a.2.2.2.length ≤ 100000) ∧ dpL a.2.2.1 < n, post := fun a d => d = foD (bgN (.loop a.1 a.2.1 a.2.2.1 a.2.2.2)) }
theorem ndL_get {ns : List Node} {i : Nat} {d : D} (h : (ndL ns)[i]? = some d) : ∃ x, ns[i]? = some x ∧ d = ndN x := by
  rw [ndL_map, List.getElem?_map] at h
  cases q : ns[i]? with
  | none => rw [q] at h; cases h
  | some x => rw [q] at h; exact ⟨x, rfl, (Option.some.inj h).symm⟩
theorem drop_at {α : Type} {l : List α} {i : Nat} {x : α} (h : l[i]? = some x) : l.drop i = x :: l.drop (i + 1) := by
  obtain ⟨hl, e⟩ := List.getElem?_eq_some_iff.mp h
  rw [List.drop_eq_getElem_cons hl, e]
theorem ndL_len (ns : List Node) : (ndL ns).length = ns.length := by rw [ndL_map, List.length_map]
section
variable {P : Program} {w : World} {K : PySem.W.Frag} {mg : Str → Option Value} {base : Heap} {f : Addr} {fd : FuncData} {wc : Way → Addr} {nf : Addr} {k : Nat}
theorem ok_way_of (fx : Fx K mg wc nf) (F : FnP K "way_of" "way_of" s_way_of f fd) : FnOk P w K mg base (L2.CX P w) (k + 1) f fd ["word"] (spA K wc nf cWayOf) := by
  refine F.ok sc_way_of (spA_len fun a _ => rfl) fun cdv A outer s H vs Q E hr h => ?_
  obtain ⟨v, pre, go⟩ := pure_A (N := N_way_of) (fun a _ => by simp [cWayOf]) h
  refine ⟨_, (pss_cons (ps_if (pt_not (pt_val (pe_callB call_isi (by rfl) fx.b_isinstance bb_isinstance (pa_cons (pv 0) (pa_cons (pe_bltn (v := .ty "str") rfl fx.b_str bb_str rfl) pa_nil)))))
  (pss_one ps_never)
  pss_nil)
  (pss_cons (ps_if (pt_cmpR op_eq (pv 0) pe_str (nomark _))
  (pss_one (ps_ret (pe_newO (fx.way .word).2.1 (by rfl) (fx.way .word).1)))
  pss_nil)
  (pss_cons (ps_if (pt_cmpR op_eq (pv 0) pe_str (nomark _))
  (pss_one (ps_ret (pe_newO (fx.way .number).2.1 (by rfl) (fx.way .number).1)))
  pss_nil)
  (pss_cons (ps_if (pt_cmpR op_eq (pv 0) pe_str (nomark _))
  (pss_one (ps_ret (pe_newO (fx.way .quoted).2.1 (by rfl) (fx.way .quoted).1)))
  pss_nil)
  (pss_cons (ps_if (pt_cmpR op_eq (pv 0) pe_str (nomark _))
  (pss_one (ps_ret (pe_newO (fx.way .plain).2.1 (by rfl) (fx.way .plain).1)))
  pss_nil)
  (pss_cons (ps_if (pt_cmpR op_eq (pv 0) pe_str (nomark _))
  (pss_one (ps_ret (pe_newO (fx.way .line).2.1 (by rfl) (fx.way .line).1)))
  pss_nil)
  (pss_one ps_never))))))), go _ (?_ : wS _ _ ⟨[some (.val (.str (wayS v)))], none, 0⟩ _)⟩
  try dsimp only [L2.cxOf]
  cases v <;> (unfold wayS; repeat' walk_at "w")
  all_goals exact rfl
theorem ok_loop_begins {n : Nat} (fx : Fx K mg wc nf) (F : FnP K "loop_begins" "loop_begins" s_loop_begins f fd) (Gb : Fn P w K mg base "begins" ["nodes"] k (spA K wc nf (cBg n))) (Gu : Fn P w K mg base "united" ["one", "other"] k (spA K wc nf cUnited)) :
    FnOk P w K mg base (L2.CX P w) (k + 1) f fd ["node"] (spA K wc nf (cLb n)) := by
  refine F.ok sc_loop_begins (spA_len fun a _ => rfl) fun cdv A outer s H vs Q E hr h => ?_
  obtain ⟨⟨nm, p, b, btw⟩, pre, go⟩ := pure_A (N := N_loop_begins) (fun a _ => by simp [cLb]) h
  obtain ⟨⟨h1, h2, h3⟩, h4⟩ : (gdL b ∧ allSG btw = true ∧ btw.length ≤ 100000) ∧ dpL b < n := pre
  refine ⟨_, (pss_cons (ps_asg (pe_fn Gb hr (by omega) rfl passL (pa_cons (pe_ix ix_tup (pv 0) pe_int (fun _ _ => rfl)) pa_nil)) (pg_tup (by rfl) (pgs_cons (pg_name (i := 1) sc_loop_begins.nd rfl (Or.inl rfl)) (pgs_cons (pg_name (i := 2) sc_loop_begins.nd rfl (Or.inl rfl)) pgs_nil))))
  (pss_cons (ps_if (pt_val (pv 2))
  (pss_one (ps_set (i := 1) sc_loop_begins.nd rfl (Or.inl rfl) (pe_fn Gu hr (by omega) rfl passL (pa_cons (pv 1) (pa_cons (pe_slice sl_str (pe_ix ix_tup (pv 0) pe_int (fun _ _ => rfl)) po_none (po_some pe_int)) pa_nil)))))
  pss_nil)
  (pss_one (ps_ret (pe_tup (pa_cons (pv 1) (pa_cons pe_bl pa_nil))))))), go _ (?_ : wS _ _ ⟨[some (.val (ndN (.loop nm p b btw))), none, none], none, 0⟩ _)⟩
  rw [show ndN (.loop nm p b btw) = .tup [.str (cs "loop"), .str nm, pthD p, FD b, .str btw] from by rw [ndN]]
  try dsimp only [L2.cxOf]
  repeat' walk_at "w"
  refine ⟨b, ⟨h1, h4⟩, rfl, fun d hd => ?_, fun _ => id⟩
  rw [hd]
  refine wG_tup (is := [1, 2]) rfl rfl ?_
  dsimp only [puts]
  repeat' walk_at "w"
  have e : bgN (.loop nm p b btw) = (if (bgL b []).2 then united (bgL b []).1 (btw.take 1) else (bgL b []).1, true) := by rw [bgN]
  refine ite_b (fun hb => ?_) fun hb => ?_
  · repeat' walk_at "w"
    · omega
    rw [show cutT btw none (some 1) = btw.take 1 from cut_to (by omega)]
    refine ⟨((bgL b []).1, btw.take 1), trivial, rfl, fun d hd => ?_, fun _ => id⟩
    rw [hd]
    repeat' walk_at "w"
    refine ⟨by simp, ?_⟩
    show _ = foD (bgN (.loop nm p b btw))
    rw [e, if_pos hb]
  · repeat' walk_at "w"
    refine ⟨by simp, ?_⟩
    show _ = foD (bgN (.loop nm p b btw))
    rw [e, if_neg (by rw [hb]; simp)]
theorem ok_node_begins {n : Nat} (fx : Fx K mg wc nf) (F : FnP K "node_begins" "node_begins" s_node_begins f fd) (cl : ∀ v, Cls K (wc v)) (Gw : Fn P w K mg base "way_of" ["word"] k (spA K wc nf cWayOf)) (Gl : Fn P w K mg base "loop_begins" ["node"] k (spA K wc nf (cLb n)))
    (Gb : Fn P w K mg base "begins" ["nodes"] k (spA K wc nf (cBg n))) (Gu : Fn P w K mg base "united" ["one", "other"] k (spA K wc nf cUnited)) (Mb : ∀ v, Me P w K mg base (wc v) "begins" ["self"] k (spA K wc nf (cBegins v))) (Mv : ∀ v, Me P w K mg base (wc v) "is_void" ["self"] k (spA K wc nf (cVoid v))) :
    FnOk P w K mg base (L2.CX P w) (k + 1) f fd ["node"] (spA K wc nf (cNb (n + 1))) := by
  refine F.ok sc_node_begins (spA_len fun a _ => rfl) fun cdv A outer s H vs Q E hr h => ?_
  obtain ⟨x, pre, go⟩ := pure_A (N := N_node_begins) (fun a _ => by simp [cNb]) h
  obtain ⟨hg, hd⟩ : gdN x ∧ dpN x < n + 1 := pre
  obtain ⟨v, hv⟩ : ∃ v, ∀ p' v', x = .place p' v' → v' = v := by
    cases x with
    | place p' v' => exact ⟨v', fun _ _ e => by cases e; rfl⟩
    | _ => exact ⟨.plain, fun _ _ e => by cases e⟩
  refine ⟨_, (pss_cons (ps_if (pt_cmpR op_eq (pe_ix ix_tup (pv 0) pe_int (fun _ _ => rfl)) pe_str (nomark _))
  (pss_one (ps_ret (pe_tup (pa_cons (pe_ix ix_str (pe_ix ix_tup (pv 0) pe_int (fun _ _ => rfl)) pe_int (fun _ _ => rfl)) (pa_cons pe_bl pa_nil)))))
  pss_nil)
  (pss_cons (ps_if (pt_cmpR op_eq (pe_ix ix_tup (pv 0) pe_int (fun _ _ => rfl)) pe_str (nomark _))
  (pss_cons (ps_set (i := 1) sc_node_begins.nd rfl (Or.inl rfl) (pe_fn Gw hr (by omega) rfl passL (pa_cons (pe_ix ix_tup (pv 0) pe_int (fun _ _ => rfl)) pa_nil)))
  (pss_one (ps_ret (pe_tup (pa_cons (pe_me0 (cl v) (Mb v) hr (by omega) passL (pv 1)) (pa_cons (pe_me0 (cl v) (Mv v) hr (by omega) passL (pv 1)) pa_nil))))))
  pss_nil)
  (pss_cons (ps_if (pt_cmpR op_eq (pe_ix ix_tup (pv 0) pe_int (fun _ _ => rfl)) pe_str (nomark _))
  (pss_one (ps_ret (pe_fn Gl hr (by omega) rfl passL (pa_cons (pv 0) pa_nil))))
  pss_nil)
  (pss_cons (ps_set (i := 2) sc_node_begins.nd rfl (Or.inl rfl) (pe_fn Gb hr (by omega) rfl passL (pa_cons (pe_ix ix_tup (pv 0) pe_int (fun _ _ => rfl)) pa_nil)))
  (pss_cons (ps_set (i := 3) sc_node_begins.nd rfl (Or.inl rfl) (pe_fn Gb hr (by omega) rfl passL (pa_cons (pe_ix ix_tup (pv 0) pe_int (fun _ _ => rfl)) pa_nil)))
  (pss_one (ps_ret (pe_tup (pa_cons (pe_fn Gu hr (by omega) rfl passL (pa_cons (pe_ix ix_tup (pv 2) pe_int (fun _ _ => rfl)) (pa_cons (pe_ix ix_tup (pv 3) pe_int (fun _ _ => rfl)) pa_nil))) (pa_cons (pe_or (pe_ix ix_tup (pv 2) pe_int (fun _ _ => rfl)) (pe_one (pe_ix ix_tup (pv 3) pe_int (fun _ _ => rfl)))) pa_nil)))))))))), go _ (?_ : wS _ _ ⟨[some (.val (ndN x)), none, none, none], none, 0⟩ _)⟩
  try dsimp only [L2.cxOf]
  cases x with
  | text t =>
    rw [gdN] at hg
    obtain ⟨c, r, rfl⟩ := List.exists_cons_of_ne_nil hg.1
    rw [show ndN (.text (c :: r)) = .tup [.str (cs "text"), .str (c :: r)] from by rw [ndN]]
    repeat' walk_at "w"
    refine wR_ixS (n := 0) (by omega) rfl rfl ?_
    repeat' walk_at "w"
    refine ⟨by simp, ?_⟩
    show _ = foD (bgN (.text (c :: r)))
    rw [bgN]; rfl
  | place p v' =>
    obtain rfl := hv p v' rfl
    rw [show ndN (.place p v') = .tup [.str (cs "place"), pthD p, .str (wayS v')] from by rw [ndN]]
    repeat' walk_at "w"
    refine ⟨v', trivial, rfl, fun d hd => ?_, fun _ => id⟩
    rw [hd]
    repeat' walk_at "w"
    refine ⟨(), trivial, rfl, fun d hd => ?_, fun _ => id⟩
    rw [hd]
    repeat' walk_at "w"
    refine ⟨(), trivial, rfl, fun d hd => ?_, fun _ => id⟩
    rw [hd]
    repeat' walk_at "w"
    refine ⟨by simp, ?_⟩
    show _ = foD (bgN (.place p v'))
    rw [bgN]
  | loop nm p b btw =>
    rw [gdN] at hg; rw [dpN] at hd
    have e0 : ndN (.loop nm p b btw) = .tup [.str (cs "loop"), .str nm, pthD p, FD b, .str btw] := by rw [ndN]
    rw [e0]
    repeat' walk_at "w"
    refine ⟨(nm, p, b, btw), ⟨hg, (by show dpL b < n; omega)⟩, by rw [← e0]; rfl, fun d hd => ?_, fun _ => id⟩
    repeat' walk_at "w"
    exact hd
  | choice p y m =>
    rw [gdN] at hg; rw [dpN] at hd
    rw [show ndN (.choice p y m) = .tup [.str (cs "choice"), pthD p, FD y, FD m] from by rw [ndN]]
    repeat' walk_at "w"
    refine ⟨y, ⟨hg.1, by omega⟩, rfl, fun d hd => ?_, fun _ => id⟩
    rw [hd]
    repeat' walk_at "w"
    refine ⟨m, ⟨hg.2, by omega⟩, rfl, fun d hd => ?_, fun _ => id⟩
    rw [hd]
    repeat' walk_at "w"
    refine ⟨((bgL y []).1, (bgL m []).1), trivial, rfl, fun d hd => ?_, fun _ => id⟩
    rw [hd]
    repeat' walk_at "w"
    refine ite_b (fun hb => ?_) fun hb => ?_
    · repeat' walk_at "w"
      refine ⟨by simp, ?_⟩
      show _ = foD (bgN (.choice p y m))
      rw [bgN, hb]; rfl
    · repeat' walk_at "w"
      refine ⟨by simp, ?_⟩
      show _ = foD (bgN (.choice p y m))
      rw [bgN, hb]; rfl
theorem ok_begins {n : Nat} (fx : Fx K mg wc nf) (F : FnP K "begins" "begins" s_begins f fd) (Gn : Fn P w K mg base "node_begins" ["node"] k (spA K wc nf (cNb n))) (Gu : Fn P w K mg base "united" ["one", "other"] k (spA K wc nf cUnited)) :
    FnOk P w K mg base (L2.CX P w) (k + 1) f fd ["nodes"] (spA K wc nf (cBg n)) := by
  refine F.ok sc_begins (spA_len fun a _ => rfl) fun cdv A outer s H vs Q E hr h => ?_
  obtain ⟨ns, pre, go⟩ := pure_A (N := N_begins) (fun a _ => by simp [cBg]) h
  obtain ⟨hg, hd⟩ : gdL ns ∧ dpL ns < n := pre
  refine ⟨_, (pss_cons (ps_set (i := 1) sc_begins.nd rfl (Or.inl rfl) pe_str)
  (pss_cons (ps_for (passes_of rfl) (by rfl) (pi_tup (pv 0)) (pg_name (i := 2) sc_begins.nd rfl (Or.inl rfl))
  (pss_cons (ps_asg (pe_fn Gn hr (by omega) rfl passL (pa_cons (pv 2) pa_nil)) (pg_tup (by rfl) (pgs_cons (pg_name (i := 3) sc_begins.nd rfl (Or.inl rfl)) (pgs_cons (pg_name (i := 4) sc_begins.nd rfl (Or.inl rfl)) pgs_nil))))
  (pss_cons (ps_set (i := 1) sc_begins.nd rfl (Or.inl rfl) (pe_fn Gu hr (by omega) rfl passL (pa_cons (pv 1) (pa_cons (pv 3) pa_nil))))
  (pss_one (ps_if (pt_not (pt_val (pv 4)))
  (pss_one (ps_ret (pe_tup (pa_cons (pv 1) (pa_cons pe_bl pa_nil)))))
  pss_nil)))))
  (pss_one (ps_ret (pe_tup (pa_cons (pv 1) (pa_cons pe_bl pa_nil))))))), go _ (?_ : wS _ _ ⟨[some (.val (FD ns)), none, none, none, none], none, 0⟩ _)⟩
  try dsimp only [L2.cxOf]
  repeat' walk_at "w"
  refine ⟨fun i δ => ∃ found o1 o2 o3, bgL ns [] = bgL (ns.drop i) found ∧ δ = ⟨[some (.val (FD ns)), some (.val (.str found)), o1, o2, o3], none, 0⟩, ⟨[], none, none, none, rfl, rfl⟩, ?_, ?_⟩
  · rintro i d δ hdd ⟨found, o1, o2, o3, he, rfl⟩
    obtain ⟨x, hx, rfl⟩ := ndL_get hdd
    have hm := List.mem_of_getElem? hx
    rw [drop_at hx, bgL] at he
    repeat' walk_at "w"
    refine ⟨x, ⟨gdL_mem hg x hm, Nat.lt_of_le_of_lt (dpL_le.mp (Nat.le_refl _) x hm) hd⟩, rfl, fun d hd => ?_, fun _ => id⟩
    rw [hd]
    refine wG_tup (is := [3, 4]) rfl rfl ?_
    dsimp only [puts]
    repeat' walk_at "w"
    refine ⟨(found, (bgN x).1), trivial, rfl, fun d hd => ?_, fun _ => id⟩
    rw [hd]
    repeat' walk_at "w"
    refine ite_b (fun hb => ?_) fun hb => ?_
    · repeat' walk_at "w"
      refine ⟨by simp, ?_⟩
      have hb : (bgN x).2 = false := by simpa using hb
      rw [if_neg (by rw [hb]; simp)] at he
      show _ = foD (bgL ns [])
      rw [he]
    · repeat' walk_at "w"
      have hb : (bgN x).2 = true := by simpa using hb
      rw [if_pos hb] at he
      exact ⟨_, _, _, _, he, rfl⟩
  · rintro δ ⟨found, o1, o2, o3, he, rfl⟩
    rw [List.drop_of_length_le (by rw [ndL_len]; exact Nat.le_refl _), bgL] at he
    repeat' walk_at "w"
    refine ⟨by simp, ?_⟩
    show _ = foD (bgL ns [])
    rw [he]
end

/-! W8: side_begins, follows, again_begins, within_loop. -/
abbrev s_side_begins : Stmt := top 34
abbrev N_side_begins : List Str := ["nodes", "follow", "found", "is_void"]
theorem sc_side_begins : FnScope N_side_begins ["nodes", "follow"] (defScope s_side_begins) := ⟨rfl, rfl, rfl, by decide +kernel, rfl, by decide +kernel, by decide +kernel⟩
abbrev s_follows : Stmt := top 35
abbrev N_follows : List Str := ["nodes", "at", "follow"]
theorem sc_follows : FnScope N_follows ["nodes", "at", "follow"] (defScope s_follows) := ⟨rfl, rfl, rfl, by decide +kernel, rfl, by decide +kernel, by decide +kernel⟩
abbrev s_again_begins : Stmt := top 36
abbrev N_again_begins : List Str := ["node"]
theorem sc_again_begins : FnScope N_again_begins ["node"] (defScope s_again_begins) := ⟨rfl, rfl, rfl, by decide +kernel, rfl, by decide +kernel, by decide +kernel⟩
abbrev s_within_loop : Stmt := top 37
abbrev N_within_loop : List Str := ["node", "follow"]
theorem sc_within_loop : FnScope N_within_loop ["node", "follow"] (defScope s_within_loop) := ⟨rfl, rfl, rfl, by decide +kernel, rfl, by decide +kernel, by decide +kernel⟩
def isNon : D → Bool
  | .non => true
  | _ => false
theorem rep_non {K : PySem.W.Frag} {wc : Way → Addr} {d : D} {P : Addr → Prop} {H : Hp} {v : V} (h : Rep K wc d P H v) : decide (v = .non) = isNon d := by
  cases d with
  | non => unfold Rep at h; subst h; rfl
  | bl b => unfold Rep at h; subst h; rfl
  | int i => unfold Rep at h; subst h; rfl
  | str t => unfold Rep at h; subst h; rfl
  | ty n => unfold Rep at h; subst h; rfl
  | adr a => unfold Rep at h; subst h; rfl
  | tup l => unfold Rep at h; obtain ⟨a, vs, rfl, _⟩ := h; rfl
  | lst l => unfold Rep at h; obtain ⟨a, vs, rfl, _⟩ := h; rfl
  | way w => unfold Rep at h; obtain ⟨a, dx, rfl, _⟩ := h; rfl
  | dic l => unfold Rep at h; obtain ⟨a, rfl, _⟩ := h; rfl
theorem wR_isX {p : Pr} {a : D} {Φ : D → Prop} (q : Φ (.bl (isNon a))) : wR p (fun x y H Q => y = .non ∧ Q (.bl (decide (x = .non))) H) a .non Φ := fun P H x y Q _ rx ry f => by
  have e := rep_non rx
  unfold Rep at ry; subst ry
  exact ⟨rfl, f _ _ H q (Same.refl H) (by unfold Rep; rw [e])⟩
theorem wR_notX {p : Pr} {a : D} {Φ : D → Prop} (q : Φ (.bl (!isNon a))) : wR p (fun x y H Q => y = .non ∧ Q (.bl (!decide (x = .non))) H) a .non Φ := fun P H x y Q _ rx ry f => by
  have e := rep_non rx
  unfold Rep at ry; subst ry
  exact ⟨rfl, f _ _ H q (Same.refl H) (by unfold Rep; rw [e])⟩
theorem united_len (a b : T) : (united a b).length ≤ 95 := by
  unfold united
  have := List.length_filter_le (fun c => decide (c ∈ a) || decide (c ∈ b)) SG
  have h2 : SG.length = 95 := by decide
  omega
theorem bgL_len : ∀ (ns : List Node) (found : T), found.length ≤ 95 → (bgL ns found).1.length ≤ 95
  | [], found, h => by rw [bgL]; exact h
  | n :: ns, found, h => by
    rw [bgL]; split
    · exact bgL_len ns _ (united_len _ _)
    · exact united_len _ _
theorem sideB_len (ns : List Node) (fo : Fo) : (sideB ns fo).1.length ≤ 95 := by
  unfold sideB; split
  · exact united_len _ _
  · exact bgL_len _ _ (by simp)
def loN (a : T × List T × List Node × T) : Node := .loop a.1 a.2.1 a.2.2.1 a.2.2.2
def cSide (n : Nat) : CtA (List Node × Fo) := { args := fun a => [FD a.1, foD a.2], pre := fun a => gdL a.1 ∧ dpL a.1 < n, post := fun a d => d = foD (sideB a.1 a.2) }
def cFollows (n : Nat) : CtA (List Node × Nat × Fo) := { args := fun a => [FD a.1, .int a.2.1, foD a.2.2], pre := fun a => gdL a.1 ∧ dpL a.1 < n, post := fun a d => d = foD (sideB (a.1.drop (a.2.1 + 1)) a.2.2) }
def loOk (n : Nat) (a : T × List T × List Node × T) : Prop := (gdL a.2.2.1 ∧ allSG a.2.2.2 = true ∧ a.2.2.2.length ≤ 100000) ∧ dpL a.2.2.1 < n
def cAgain (n : Nat) : CtA (T × List T × List Node × T) := { args := fun a => [ndN (loN a)], pre := loOk n, post := fun a d => d = .str (againB a.2.2.1 a.2.2.2) }
def cWithin (n : Nat) : CtA ((T × List T × List Node × T) × Fo) := { args := fun a => [ndN (loN a.1), foD a.2], pre := fun a => loOk n a.1, post := fun a d => d = foD (withinL a.1.2.2.1 a.1.2.2.2 a.2) }
theorem loN_eq (nm : T) (p : List T) (b : List Node) (btw : T) : ndN (loN (nm, p, b, btw)) = .tup [.str (cs "loop"), .str nm, pthD p, FD b, .str btw] := by
  show ndN (.loop nm p b btw) = _
  rw [ndN]
section
variable {P : Program} {w : World} {K : PySem.W.Frag} {mg : Str → Option Value} {base : Heap} {f : Addr} {fd : FuncData} {wc : Way → Addr} {nf : Addr} {k : Nat}
theorem ok_side_begins {n : Nat} (fx : Fx K mg wc nf) (F : FnP K "side_begins" "side_begins" s_side_begins f fd) (Gb : Fn P w K mg base "begins" ["nodes"] k (spA K wc nf (cBg n))) (Gu : Fn P w K mg base "united" ["one", "other"] k (spA K wc nf cUnited)) :
    FnOk P w K mg base (L2.CX P w) (k + 1) f fd ["nodes", "follow"] (spA K wc nf (cSide n)) := by
  refine F.ok sc_side_begins (spA_len fun a _ => rfl) fun cdv A outer s H vs Q E hr h => ?_
  obtain ⟨⟨ns, fo⟩, pre, go⟩ := pure_A (N := N_side_begins) (fun a _ => by simp [cSide]) h
  refine ⟨_, (pss_cons (ps_asg (pe_fn Gb hr (by omega) rfl passL (pa_cons (pv 0) pa_nil)) (pg_tup (by rfl) (pgs_cons (pg_name (i := 2) sc_side_begins.nd rfl (Or.inl rfl)) (pgs_cons (pg_name (i := 3) sc_side_begins.nd rfl (Or.inl rfl)) pgs_nil))))
  (pss_cons (ps_if (pt_val (pv 3))
  (pss_one (ps_ret (pe_tup (pa_cons (pe_fn Gu hr (by omega) rfl passL (pa_cons (pv 2) (pa_cons (pe_ix ix_tup (pv 1) pe_int (fun _ _ => rfl)) pa_nil))) (pa_cons (pe_ix ix_tup (pv 1) pe_int (fun _ _ => rfl)) pa_nil)))))
  pss_nil)
  (pss_one (ps_ret (pe_tup (pa_cons (pv 2) (pa_cons pe_bl pa_nil))))))), go _ (?_ : wS _ _ ⟨[some (.val (FD ns)), some (.val (foD fo)), none, none], none, 0⟩ _)⟩
  try dsimp only [L2.cxOf]
  repeat' walk_at "w"
  refine ⟨ns, pre, rfl, fun d hd => ?_, fun _ => id⟩
  rw [hd]
  refine wG_tup (is := [2, 3]) rfl rfl ?_
  dsimp only [puts]
  repeat' walk_at "w"
  refine ite_b (fun hb => ?_) fun hb => ?_
  · repeat' walk_at "w"
    refine ⟨((bgL ns []).1, fo.1), trivial, rfl, fun d hd => ?_, fun _ => id⟩
    rw [hd]
    repeat' walk_at "w"
    refine ⟨by simp, ?_⟩
    show _ = foD (sideB ns fo)
    unfold sideB; rw [if_pos hb]
  · repeat' walk_at "w"
    refine ⟨by simp, ?_⟩
    show _ = foD (sideB ns fo)
    unfold sideB; rw [if_neg (by rw [hb]; simp)]
theorem ok_follows {n : Nat} (fx : Fx K mg wc nf) (F : FnP K "follows" "follows" s_follows f fd) (Gs : Fn P w K mg base "side_begins" ["nodes", "follow"] k (spA K wc nf (cSide n))) :
    FnOk P w K mg base (L2.CX P w) (k + 1) f fd ["nodes", "at", "follow"] (spA K wc nf (cFollows n)) := by
  refine F.ok sc_follows (spA_len fun a _ => rfl) fun cdv A outer s H vs Q E hr h => ?_
  obtain ⟨⟨ns, i, fo⟩, pre, go⟩ := pure_A (N := N_follows) (fun a _ => by simp [cFollows]) h
  refine ⟨_, (pss_one (ps_ret (pe_fn Gs hr (by omega) rfl passL (pa_cons (pe_slice sl_tupA (pv 0) (po_some (pe_op op_add (pv 1) pe_int)) po_none) (pa_cons (pv 2) pa_nil))))), go _ (?_ : wS _ _ ⟨[some (.val (FD ns)), some (.val (.int i)), some (.val (foD fo))], none, 0⟩ _)⟩
  try dsimp only [L2.cxOf]
  repeat' walk_at "w"
  refine ⟨(ns.drop (i + 1), fo), ⟨gdL_drop _ pre.1, Nat.lt_of_le_of_lt (dpL_drop _ (Nat.le_refl _)) pre.2⟩, ?_, fun d hd => ?_, fun _ => id⟩
  · rw [show cutT (ndL ns) (some ((i : Int) + 1)) none = ndL (ns.drop (i + 1)) by rw [cut_from (by omega), ndL_map, ndL_map, List.map_drop]; congr 1]
    rfl
  · repeat' walk_at "w"
    exact hd
theorem ok_again_begins {n : Nat} (fx : Fx K mg wc nf) (F : FnP K "again_begins" "again_begins" s_again_begins f fd) (Gb : Fn P w K mg base "begins" ["nodes"] k (spA K wc nf (cBg n))) :
    FnOk P w K mg base (L2.CX P w) (k + 1) f fd ["node"] (spA K wc nf (cAgain n)) := by
  refine F.ok sc_again_begins (spA_len fun a _ => rfl) fun cdv A outer s H vs Q E hr h => ?_
  obtain ⟨⟨nm, p, b, btw⟩, pre, go⟩ := pure_A (N := N_again_begins) (fun a _ => by simp [cAgain]) h
  obtain ⟨⟨h1, h2, h3⟩, h4⟩ : (gdL b ∧ allSG btw = true ∧ btw.length ≤ 100000) ∧ dpL b < n := pre
  refine ⟨_, (pss_cons (ps_if (pt_cmpR op_ne (pe_ix ix_tup (pv 0) pe_int (fun _ _ => rfl)) pe_str (nomark _))
  (pss_one (ps_ret (pe_ix ix_str (pe_ix ix_tup (pv 0) pe_int (fun _ _ => rfl)) pe_int (fun _ _ => rfl))))
  pss_nil)
  (pss_one (ps_ret (pe_ix ix_tup (pe_fn Gb hr (by omega) rfl passL (pa_cons (pe_ix ix_tup (pv 0) pe_int (fun _ _ => rfl)) pa_nil)) pe_int (fun _ _ => rfl))))), go _ (?_ : wS _ _ ⟨[some (.val (ndN (loN (nm, p, b, btw))))], none, 0⟩ _)⟩
  rw [loN_eq]
  try dsimp only [L2.cxOf]
  repeat' walk_at "w"
  refine ite_b (fun hb => ?_) fun hb => ?_
  · have hne : btw ≠ [] := fun z => by rw [z] at hb; exact absurd hb (by decide)
    obtain ⟨c, r, rfl⟩ := List.exists_cons_of_ne_nil hne
    repeat' walk_at "w"
    refine wR_ixS (n := 0) (by omega) rfl rfl ?_
    repeat' walk_at "w"
    show _ = D.str (againB b (c :: r))
    unfold againB; rw [if_neg (by simp)]; rfl
  · have hne : btw = [] := by
      have z : btw = cs "" := by simpa using hb
      exact z
    repeat' walk_at "w"
    refine ⟨b, ⟨h1, h4⟩, rfl, fun d hd => ?_, fun _ => id⟩
    rw [hd]
    repeat' walk_at "w"
    show _ = D.str (againB b btw)
    unfold againB; rw [if_pos hne]
theorem ok_within_loop {n : Nat} (fx : Fx K mg wc nf) (F : FnP K "within_loop" "within_loop" s_within_loop f fd) (Ga : Fn P w K mg base "again_begins" ["node"] k (spA K wc nf (cAgain n))) (Gu : Fn P w K mg base "united" ["one", "other"] k (spA K wc nf cUnited)) :
    FnOk P w K mg base (L2.CX P w) (k + 1) f fd ["node", "follow"] (spA K wc nf (cWithin n)) := by
  refine F.ok sc_within_loop (spA_len fun a _ => rfl) fun cdv A outer s H vs Q E hr h => ?_
  obtain ⟨⟨lo, fo⟩, pre, go⟩ := pure_A (N := N_within_loop) (fun a _ => by simp [cWithin]) h
  refine ⟨_, (pss_one (ps_ret (pe_tup (pa_cons (pe_fn Gu hr (by omega) rfl passL (pa_cons (pe_fn Ga hr (by omega) rfl passL (pa_cons (pv 0) pa_nil)) (pa_cons (pe_ix ix_tup (pv 1) pe_int (fun _ _ => rfl)) pa_nil))) (pa_cons (pe_ix ix_tup (pv 1) pe_int (fun _ _ => rfl)) pa_nil))))), go _ (?_ : wS _ _ ⟨[some (.val (ndN (loN lo))), some (.val (foD fo))], none, 0⟩ _)⟩
  try dsimp only [L2.cxOf]
  repeat' walk_at "w"
  refine ⟨lo, pre, rfl, fun d hd => ?_, fun _ => id⟩
  rw [hd]
  repeat' walk_at "w"
  refine ⟨(againB lo.2.2.1 lo.2.2.2, fo.1), trivial, rfl, fun d hd => ?_, fun _ => id⟩
  rw [hd]
  repeat' walk_at "w"
  exact ⟨by simp, rfl⟩
end

/-! W9: unclear. -/
abbrev s_unclear_loop : Stmt := top 39
abbrev N_unclear_loop : List Str := ["node", "follow", "signs", "is_void"]
theorem sc_unclear_loop : FnScope N_unclear_loop ["node", "follow"] (defScope s_unclear_loop) := ⟨rfl, rfl, rfl, by decide +kernel, rfl, by decide +kernel, by decide +kernel⟩
abbrev s_unclear_choice : Stmt := top 40
abbrev N_unclear_choice : List Str := ["node", "follow", "one", "other", "side", "found"]
theorem sc_unclear_choice : FnScope N_unclear_choice ["node", "follow"] (defScope s_unclear_choice) := ⟨rfl, rfl, rfl, by decide +kernel, rfl, by decide +kernel, by decide +kernel⟩
abbrev s_unclear_node : Stmt := top 41
abbrev N_unclear_node : List Str := ["node", "follow", "sign"]
theorem sc_unclear_node : FnScope N_unclear_node ["node", "follow"] (defScope s_unclear_node) := ⟨rfl, rfl, rfl, by decide +kernel, rfl, by decide +kernel, by decide +kernel⟩
abbrev s_unclear_nodes : Stmt := top 42
abbrev N_unclear_nodes : List Str := ["nodes", "follow", "at", "node", "found"]
theorem sc_unclear_nodes : FnScope N_unclear_nodes ["nodes", "follow"] (defScope s_unclear_nodes) := ⟨rfl, rfl, rfl, by decide +kernel, rfl, by decide +kernel, by decide +kernel⟩
abbrev s_unclear : Stmt := top 43
abbrev N_unclear : List Str := ["form"]
theorem sc_unclear : FnScope N_unclear ["form"] (defScope s_unclear) := ⟨rfl, rfl, rfl, by decide +kernel, rfl, by decide +kernel, by decide +kernel⟩
def unP (b : Bool) (m : Nat) (d : D) : Prop := (b = true ∧ d = .non) ∨ (b = false ∧ ∃ l, d = .tup l ∧ l.length ≤ m)
theorem unP.non {b : Bool} {m : Nat} {d : D} (h : unP b m d) : isNon d = b := by
  rcases h with ⟨h, rfl⟩ | ⟨h, l, rfl, _⟩
  · rw [h]; rfl
  · rw [h]; rfl
theorem unP.up {b : Bool} {m n : Nat} {d : D} (h : unP b m d) (hl : m ≤ n) : unP b n d := by
  rcases h with h | ⟨h, l, e, hm⟩
  · exact .inl h
  · exact .inr ⟨h, l, e, by omega⟩
def cUc (n : Nat) : CtA (List Node × Fo) := { args := fun a => [FD a.1, foD a.2], pre := fun a => gdL a.1 ∧ dpL a.1 < n ∧ a.2.1.length ≤ 95, post := fun a d => unP (clL a.1 a.2) (2 * n) d }
def cUn (n : Nat) : CtA (Node × Fo) := { args := fun a => [ndN a.1, foD a.2], pre := fun a => gdN a.1 ∧ dpN a.1 < n ∧ a.2.1.length ≤ 95, post := fun a d => unP (clN a.1 a.2) (2 * n - 1) d }
def cUl (n : Nat) : CtA ((T × List T × List Node × T) × Fo) := { args := fun a => [ndN (loN a.1), foD a.2], pre := fun a => loOk n a.1 ∧ a.2.1.length ≤ 95, post := fun a d => unP (clN (loN a.1) a.2) (2 * n) d }
def cUh (n : Nat) : CtA ((List T × List Node × List Node) × Fo) := { args := fun a => [ndN (.choice a.1.1 a.1.2.1 a.1.2.2), foD a.2], pre := fun a => (gdL a.1.2.1 ∧ gdL a.1.2.2) ∧ (dpL a.1.2.1 < n ∧ dpL a.1.2.2 < n) ∧ a.2.1.length ≤ 95, post := fun a d => unP (clN (.choice a.1.1 a.1.2.1 a.1.2.2) a.2) (2 * n + 1) d }
def cUnclear (n : Nat) : CtA (List Node) := { args := fun a => [FD a], pre := fun a => gdL a ∧ dpL a < n, post := fun a d => unP (clL a ([], true)) (2 * n) d }
section
variable {P : Program} {w : World} {K : PySem.W.Frag} {mg : Str → Option Value} {base : Heap} {f : Addr} {fd : FuncData} {wc : Way → Addr} {nf : Addr} {k : Nat}
theorem ok_unclear_loop {n : Nat} (fx : Fx K mg wc nf) (F : FnP K "unclear_loop" "unclear_loop" s_unclear_loop f fd) (Gb : Fn P w K mg base "begins" ["nodes"] k (spA K wc nf (cBg n))) (Gc : Fn P w K mg base "have_common" ["one", "other"] k (spA K wc nf cCommon))
    (Gn : Fn P w K mg base "unclear_nodes" ["nodes", "follow"] k (spA K wc nf (cUc n))) (Gi : Fn P w K mg base "within_loop" ["node", "follow"] k (spA K wc nf (cWithin n))) :
    FnOk P w K mg base (L2.CX P w) (k + 1) f fd ["node", "follow"] (spA K wc nf (cUl n)) := by
  refine F.ok sc_unclear_loop (spA_len fun a _ => rfl) fun cdv A outer s H vs Q E hr h => ?_
  obtain ⟨⟨⟨nm, p, b, btw⟩, fo⟩, pre, go⟩ := pure_A (N := N_unclear_loop) (fun a _ => by simp [cUl]) h
  obtain ⟨hlo, hfo⟩ : loOk n (nm, p, b, btw) ∧ fo.1.length ≤ 95 := pre
  obtain ⟨⟨h1, h2, h3⟩, h4⟩ : (gdL b ∧ allSG btw = true ∧ btw.length ≤ 100000) ∧ dpL b < n := hlo
  have e : clN (loN (nm, p, b, btw)) fo = if (bgL b []).2 || common ((bgL b []).1 ++ btw.take 1) fo.1 then false else clL b (withinL b btw fo) := by
    show clN (.loop nm p b btw) fo = _
    rw [clN]
  have hb95 := bgL_len b [] (by simp)
  refine ⟨_, (pss_cons (ps_asg (pe_fn Gb hr (by omega) rfl passL (pa_cons (pe_ix ix_tup (pv 0) pe_int (fun _ _ => rfl)) pa_nil)) (pg_tup (by rfl) (pgs_cons (pg_name (i := 2) sc_unclear_loop.nd rfl (Or.inl rfl)) (pgs_cons (pg_name (i := 3) sc_unclear_loop.nd rfl (Or.inl rfl)) pgs_nil))))
  (pss_cons (ps_if (PW.pt (pw_or (pt_val (pv 3)) (pw_or1 (pt_val (pe_fn Gc hr (by omega) rfl passL (pa_cons (pe_op op_add_str (pv 2) (pe_slice sl_str (pe_ix ix_tup (pv 0) pe_int (fun _ _ => rfl)) po_none (po_some pe_int))) (pa_cons (pe_ix ix_tup (pv 1) pe_int (fun _ _ => rfl)) pa_nil)))))))
  (pss_one (ps_ret (pe_tup pa_nil)))
  pss_nil)
  (pss_one (ps_ret (pe_fn Gn hr (by omega) rfl passL (pa_cons (pe_ix ix_tup (pv 0) pe_int (fun _ _ => rfl)) (pa_cons (pe_fn Gi hr (by omega) rfl passL (pa_cons (pv 0) (pa_cons (pv 1) pa_nil))) pa_nil))))))), go _ (?_ : wS _ _ ⟨[some (.val (ndN (loN (nm, p, b, btw)))), some (.val (foD fo)), none, none], none, 0⟩ _)⟩
  have e0 := loN_eq nm p b btw
  rw [e0]
  try dsimp only [L2.cxOf]
  repeat' walk_at "w"
  refine ⟨b, ⟨h1, h4⟩, rfl, fun d hd => ?_, fun _ => id⟩
  rw [hd]
  refine wG_tup (is := [2, 3]) rfl rfl ?_
  dsimp only [puts]
  repeat' walk_at "w"
  refine ite_b (fun hb => ?_) fun hb => ?_
  · repeat' walk_at "w"
    refine ⟨by simp, ?_⟩
    exact .inr ⟨by rw [e, hb]; rfl, [], rfl, by simp⟩
  · repeat' walk_at "w"
    · omega
    · rw [show cutT btw none (some 1) = btw.take 1 from cut_to (by omega)]
      have : (btw.take 1).length ≤ 1 := by simp; omega
      omega
    rw [show cutT btw none (some 1) = btw.take 1 from cut_to (by omega)]
    refine ⟨((bgL b []).1 ++ btw.take 1, fo.1), ?_, rfl, fun d hd => ?_, fun _ => id⟩
    · show ((bgL b []).1 ++ btw.take 1).length ≤ 16777216
      have : (btw.take 1).length ≤ 1 := by simp; omega
      rw [List.length_append]; omega
    rw [hd]
    refine ⟨_, rfl, ?_⟩
    refine ite_b (fun hc => ?_) fun hc => ?_
    · repeat' walk_at "w"
      refine ⟨by simp, ?_⟩
      exact .inr ⟨by rw [e, hb, hc]; rfl, [], rfl, by simp⟩
    · repeat' walk_at "w"
      refine ⟨((nm, p, b, btw), fo), ⟨⟨h1, h2, h3⟩, h4⟩, by rw [← e0]; rfl, fun d hd => ?_, fun _ => id⟩
      rw [hd]
      repeat' walk_at "w"
      refine ⟨(b, withinL b btw fo), ⟨h1, h4, united_len _ _⟩, rfl, fun d hd => ?_, fun _ => id⟩
      repeat' walk_at "w"
      show unP (clN (loN (nm, p, b, btw)) fo) (2 * n) d
      rw [e, hb, hc]
      exact hd
theorem ok_unclear_choice {n : Nat} (hn : n ≤ 1000) (fx : Fx K mg wc nf) (F : FnP K "unclear_choice" "unclear_choice" s_unclear_choice f fd) (Gs : Fn P w K mg base "side_begins" ["nodes", "follow"] k (spA K wc nf (cSide n))) (Gc : Fn P w K mg base "have_common" ["one", "other"] k (spA K wc nf cCommon))
    (Gn : Fn P w K mg base "unclear_nodes" ["nodes", "follow"] k (spA K wc nf (cUc n))) :
    FnOk P w K mg base (L2.CX P w) (k + 1) f fd ["node", "follow"] (spA K wc nf (cUh n)) := by
  refine F.ok sc_unclear_choice (spA_len fun a _ => rfl) fun cdv A outer s H vs Q E hr h => ?_
  obtain ⟨⟨⟨p, y, m⟩, fo⟩, pre, go⟩ := pure_A (N := N_unclear_choice) (fun a _ => by simp [cUh]) h
  obtain ⟨⟨h1, h2⟩, ⟨h3, h4⟩, hfo⟩ : (gdL y ∧ gdL m) ∧ (dpL y < n ∧ dpL m < n) ∧ fo.1.length ≤ 95 := pre
  have e : clN (.choice p y m) fo = if common (sideB y fo).1 (sideB m fo).1 || ((sideB y fo).2 && (sideB m fo).2) then false else clL y fo && clL m fo := by rw [clN]
  have e0 : ndN (.choice p y m) = .tup [.str (cs "choice"), pthD p, FD y, FD m] := by rw [ndN]
  refine ⟨_, (pss_cons (ps_set (i := 2) sc_unclear_choice.nd rfl (Or.inl rfl) (pe_fn Gs hr (by omega) rfl passL (pa_cons (pe_ix ix_tup (pv 0) pe_int (fun _ _ => rfl)) (pa_cons (pv 1) pa_nil))))
  (pss_cons (ps_set (i := 3) sc_unclear_choice.nd rfl (Or.inl rfl) (pe_fn Gs hr (by omega) rfl passL (pa_cons (pe_ix ix_tup (pv 0) pe_int (fun _ _ => rfl)) (pa_cons (pv 1) pa_nil))))
  (pss_cons (ps_if (PW.pt (pw_or (pt_val (pe_fn Gc hr (by omega) rfl passL (pa_cons (pe_ix ix_tup (pv 2) pe_int (fun _ _ => rfl)) (pa_cons (pe_ix ix_tup (pv 3) pe_int (fun _ _ => rfl)) pa_nil)))) (pw_or1 (PW.pt (pw_and (pt_val (pe_ix ix_tup (pv 2) pe_int (fun _ _ => rfl))) (pw_and1 (pt_val (pe_ix ix_tup (pv 3) pe_int (fun _ _ => rfl)))))))))
  (pss_one (ps_ret (pe_tup pa_nil)))
  pss_nil)
  (pss_cons (ps_for (passes_of rfl) (by rfl) (pi_tup (pe_tup (pa_cons pe_int (pa_cons pe_int pa_nil)))) (pg_name (i := 4) sc_unclear_choice.nd rfl (Or.inl rfl))
  (pss_cons (ps_set (i := 5) sc_unclear_choice.nd rfl (Or.inl rfl) (pe_fn Gn hr (by omega) rfl passL (pa_cons (pe_ix ix_tup (pv 0) (pe_op op_add pe_int (pv 4)) (fun _ _ => rfl)) (pa_cons (pv 1) pa_nil))))
  (pss_one (ps_if (pt_cmpR op_notN (pv 5) pe_non (nomark _))
  (pss_one (ps_ret (pe_op op_catA (pe_tup (pa_cons (pv 4) pa_nil)) (pv 5))))
  pss_nil))))
  (pss_one (ps_ret pe_non)))))), go _ (?_ : wS _ _ ⟨[some (.val (ndN (.choice p y m))), some (.val (foD fo)), none, none, none, none], none, 0⟩ _)⟩
  rw [e0]
  try dsimp only [L2.cxOf]
  repeat' walk_at "w"
  refine ⟨(y, fo), ⟨h1, h3⟩, rfl, fun d hd => ?_, fun _ => id⟩
  rw [hd]
  repeat' walk_at "w"
  refine ⟨(m, fo), ⟨h2, h4⟩, rfl, fun d hd => ?_, fun _ => id⟩
  rw [hd]
  dsimp only
  refine wS_cut (I := fun δ => clN (.choice p y m) fo = (clL y fo && clL m fo) ∧ δ = ⟨[some (.val (.tup [.str (cs "choice"), pthD p, FD y, FD m])), some (.val (foD fo)), some (.val (foD (sideB y fo))), some (.val (foD (sideB m fo))), none, none], none, 0⟩) ?_ ?_
  · repeat' walk_at "w"
    refine ⟨((sideB y fo).1, (sideB m fo).1), by have := sideB_len y fo; show (sideB y fo).1.length ≤ 16777216; omega, rfl, fun d hd => ?_, fun _ => id⟩
    rw [hd]
    refine ⟨_, rfl, ?_⟩
    refine ite_b (fun hc => ?_) fun hc => ?_
    · repeat' walk_at "w"
      refine ⟨by simp, ?_⟩
      exact .inr ⟨by rw [e, hc]; rfl, [], rfl, by simp⟩
    repeat' walk_at "w"
    refine ite_b (fun h5 => ?_) fun h5 => ?_
    · repeat' walk_at "w"
      refine ite_b (fun h6 => ?_) fun h6 => ?_
      · repeat' walk_at "w"
        refine ⟨by simp, ?_⟩
        exact .inr ⟨by rw [e, hc, h5, h6]; rfl, [], rfl, by simp⟩
      · repeat' walk_at "w"
        exact ⟨by rw [e, hc, h5, h6]; rfl, rfl⟩
    · repeat' walk_at "w"
      exact ⟨by rw [e, hc, h5]; rfl, rfl⟩
  · rintro δ ⟨ee, rfl⟩
    repeat' walk_at "w"
    refine ⟨by simp, ?_⟩
    refine ⟨[.int 0, .int 1], rfl, ?_⟩
    refine ⟨fun i δ => ∃ o1 o2, (1 ≤ i → clL y fo = true) ∧ (2 ≤ i → clL m fo = true) ∧ δ = ⟨[some (.val (.tup [.str (cs "choice"), pthD p, FD y, FD m])), some (.val (foD fo)), some (.val (foD (sideB y fo))), some (.val (foD (sideB m fo))), o1, o2], none, 0⟩,
      ⟨none, none, by omega, by omega, rfl⟩, ?_, ?_⟩
    · rintro i d δ hd ⟨o1, o2, hy, hm, rfl⟩
      have hi : (i = 0 ∧ d = .int 0) ∨ (i = 1 ∧ d = .int 1) := by
        cases i with
        | zero => simp at hd; exact .inl ⟨rfl, hd.symm⟩
        | succ i =>
          cases i with
          | zero => simp at hd; exact .inr ⟨rfl, hd.symm⟩
          | succ i => simp at hd
      rcases hi with ⟨rfl, rfl⟩ | ⟨rfl, rfl⟩
      · repeat' walk_at "w"
        refine ⟨(y, fo), ⟨h1, h3, hfo⟩, rfl, fun d hd => ?_, fun _ => id⟩
        have hd : unP (clL y fo) (2 * n) d := hd
        rcases hd with ⟨hb, rfl⟩ | ⟨hb, l, rfl, hl⟩
        · repeat' walk_at "w"
          refine wR_notX ?_
          repeat' walk_at "w"
          exact ⟨_, _, fun _ => hb, by omega, rfl⟩
        · repeat' walk_at "w"
          refine wR_notX ?_
          repeat' walk_at "w"
          refine ⟨by simp, ?_⟩
          repeat' walk_at "w"
          · simp; omega
          · exact .inr ⟨by rw [ee, hb]; rfl, _, rfl, by simp; omega⟩
      · repeat' walk_at "w"
        refine ⟨(m, fo), ⟨h2, h4, hfo⟩, rfl, fun d hd => ?_, fun _ => id⟩
        have hd : unP (clL m fo) (2 * n) d := hd
        rcases hd with ⟨hb, rfl⟩ | ⟨hb, l, rfl, hl⟩
        · repeat' walk_at "w"
          refine wR_notX ?_
          repeat' walk_at "w"
          exact ⟨_, _, fun _ => hy (by omega), fun _ => hb, rfl⟩
        · repeat' walk_at "w"
          refine wR_notX ?_
          repeat' walk_at "w"
          refine ⟨by simp, ?_⟩
          repeat' walk_at "w"
          · simp; omega
          · exact .inr ⟨by rw [ee, hb, Bool.and_false], _, rfl, by simp; omega⟩
    · rintro δ ⟨o1, o2, hy, hm, rfl⟩
      repeat' walk_at "w"
      exact .inl ⟨by rw [ee, hy (by simp), hm (by simp)]; rfl, rfl⟩
theorem ok_unclear_node {n : Nat} (fx : Fx K mg wc nf) (F : FnP K "unclear_node" "unclear_node" s_unclear_node f fd) (cl : ∀ v, Cls K (wc v)) (Gw : Fn P w K mg base "way_of" ["word"] k (spA K wc nf cWayOf)) (Me_ : ∀ v, Me P w K mg base (wc v) "ends" ["self"] k (spA K wc nf (cEnds v)))
    (Gl : Fn P w K mg base "unclear_loop" ["node", "follow"] k (spA K wc nf (cUl n))) (Gh : Fn P w K mg base "unclear_choice" ["node", "follow"] k (spA K wc nf (cUh n))) :
    FnOk P w K mg base (L2.CX P w) (k + 1) f fd ["node", "follow"] (spA K wc nf (cUn (n + 1))) := by
  refine F.ok sc_unclear_node (spA_len fun a _ => rfl) fun cdv A outer s H vs Q E hr h => ?_
  obtain ⟨⟨x, fo⟩, pre, go⟩ := pure_A (N := N_unclear_node) (fun a _ => by simp [cUn]) h
  obtain ⟨hg, hd, hfo⟩ : gdN x ∧ dpN x < n + 1 ∧ fo.1.length ≤ 95 := pre
  obtain ⟨v, hv⟩ : ∃ v, ∀ p' v', x = .place p' v' → v' = v := by
    cases x with
    | place p' v' => exact ⟨v', fun _ _ e => by cases e; rfl⟩
    | _ => exact ⟨.plain, fun _ _ e => by cases e⟩
  refine ⟨_, (pss_cons (ps_if (PW.pt (pw_and (pt_cmpR op_eq (pe_ix ix_tup (pv 0) pe_int (fun _ _ => rfl)) pe_str (nomark _)) (pw_and1 (pt_not (pt_val (pe_callB (cr_all (by rfl)) (by rfl) fx.b_all bb_all (pa_cons (pe_lc (own := [("sign", 2)]) (by rfl) sc_unclear_node.nd (pi_str (pe_ix ix_tup (pv 1) pe_int (fun _ _ => rfl))) (blkOk_by (own := [("sign", 2)]) (N := N_unclear_node) (sc := defScope s_unclear_node) (by decide +kernel)) (fun _ _ _ _ _ => (pg_name (i := 2) sc_unclear_node.nd rfl (Or.inl rfl))) (fun _ _ _ _ _ => pts_nil) (fun _ _ _ _ _ => (pe_cmpR op_in_sign (pv 2) (pe_me0 (cl v) (Me_ v) hr (by omega) passL (pe_fn Gw hr (by omega) rfl passL (pa_cons (pe_ix (show IxR _ (rIxT K) from ix_tup) (pv 0) pe_int (fun _ _ => rfl)) pa_nil))) rfl))) pa_nil)))))))
  (pss_one (ps_ret (pe_tup pa_nil)))
  pss_nil)
  (pss_cons (ps_if (pt_cmpR op_eq (pe_ix ix_tup (pv 0) pe_int (fun _ _ => rfl)) pe_str (nomark _))
  (pss_one (ps_ret (pe_fn Gl hr (by omega) rfl passL (pa_cons (pv 0) (pa_cons (pv 1) pa_nil)))))
  pss_nil)
  (pss_cons (ps_if (pt_cmpR op_eq (pe_ix ix_tup (pv 0) pe_int (fun _ _ => rfl)) pe_str (nomark _))
  (pss_one (ps_ret (pe_fn Gh hr (by omega) rfl passL (pa_cons (pv 0) (pa_cons (pv 1) pa_nil)))))
  pss_nil)
  (pss_one (ps_ret pe_non))))), go _ (?_ : wS _ _ ⟨[some (.val (ndN x)), some (.val (foD fo)), none], none, 0⟩ _)⟩
  try dsimp only [L2.cxOf]
  cases x with
  | text t =>
    rw [show ndN (.text t) = .tup [.str (cs "text"), .str t] from by rw [ndN]]
    repeat' walk_at "w"
    exact .inl ⟨by show clN (.text t) fo = true; rw [clN], rfl⟩
  | place p v' =>
    obtain rfl := hv p v' rfl
    have e : clN (.place p v') fo = fo.1.all (fun c => decide (c ∈ ends v')) := by rw [clN]
    rw [show ndN (.place p v') = .tup [.str (cs "place"), pthD p, .str (wayS v')] from by rw [ndN]]
    repeat' walk_at "w"
    refine wE_lcM (gw_name (by simp)) ?_
    repeat' walk_at "w"
    refine ⟨(fo.1.map fun c => decide (c ∈ ends v')).map D.bl, by simp; omega, by simp, fun i d hd => ?_, ?_⟩
    · obtain ⟨c, hc, rfl⟩ := sgs_get hd
      repeat' walk_at "w"
      refine ⟨v', trivial, rfl, fun d hd => ?_, fun _ => id⟩
      rw [hd]
      repeat' walk_at "w"
      refine ⟨(), trivial, rfl, fun d hd => ?_, fun _ => id⟩
      rw [hd]
      repeat' walk_at "w"
      exact ⟨bls_get hc, rfl⟩
    · repeat' walk_at "w"
      have ea : ((fo.1.map fun c => decide (c ∈ ends v')).all id) = clN (.place p v') fo := by rw [e, List.all_map]; rfl
      rw [ea]
      cases hb : clN (.place p v') fo with
      | true =>
        repeat' walk_at "w"
        exact .inl ⟨hb, rfl⟩
      | false =>
        repeat' walk_at "w"
        exact ⟨by simp, .inr ⟨hb, [], rfl, by simp⟩⟩
  | loop nm p b btw =>
    rw [gdN] at hg; rw [dpN] at hd
    have e0 : ndN (loN (nm, p, b, btw)) = .tup [.str (cs "loop"), .str nm, pthD p, FD b, .str btw] := loN_eq ..
    rw [show ndN (.loop nm p b btw) = .tup [.str (cs "loop"), .str nm, pthD p, FD b, .str btw] from e0]
    repeat' walk_at "w"
    refine ⟨((nm, p, b, btw), fo), ⟨⟨hg, (by show dpL b < n; omega)⟩, hfo⟩, by rw [← e0]; rfl, fun d hd => ?_, fun _ => id⟩
    repeat' walk_at "w"
    exact unP.up hd (by omega)
  | choice p y m =>
    rw [gdN] at hg; rw [dpN] at hd
    have e0 : ndN (.choice p y m) = .tup [.str (cs "choice"), pthD p, FD y, FD m] := by rw [ndN]
    rw [e0]
    repeat' walk_at "w"
    refine ⟨((p, y, m), fo), ⟨hg, ⟨(by show dpL y < n; omega), (by show dpL m < n; omega)⟩, hfo⟩, by rw [← e0]; rfl, fun d hd => ?_, fun _ => id⟩
    repeat' walk_at "w"
    exact unP.up hd (by omega)
theorem ok_unclear_nodes {n : Nat} (hn : n ≤ 1000) (fx : Fx K mg wc nf) (F : FnP K "unclear_nodes" "unclear_nodes" s_unclear_nodes f fd) (Gn : Fn P w K mg base "unclear_node" ["node", "follow"] k (spA K wc nf (cUn n))) (Gf : Fn P w K mg base "follows" ["nodes", "at", "follow"] k (spA K wc nf (cFollows n))) :
    FnOk P w K mg base (L2.CX P w) (k + 1) f fd ["nodes", "follow"] (spA K wc nf (cUc n)) := by
  refine F.ok sc_unclear_nodes (spA_len fun a _ => rfl) fun cdv A outer s H vs Q E hr h => ?_
  obtain ⟨⟨ns, fo⟩, pre, go⟩ := pure_A (N := N_unclear_nodes) (fun a _ => by simp [cUc]) h
  obtain ⟨hg, hd, hfo⟩ : gdL ns ∧ dpL ns < n ∧ fo.1.length ≤ 95 := pre
  refine ⟨_, (pss_cons (ps_for (passes_of rfl) (by rfl) (pi_enumT (by rfl) fx.b_enumerate (pa_cons (pv 0) pa_nil)) (pg_tup (by rfl) (pgs_cons (pg_name (i := 2) sc_unclear_nodes.nd rfl (Or.inl rfl)) (pgs_cons (pg_name (i := 3) sc_unclear_nodes.nd rfl (Or.inl rfl)) pgs_nil)))
  (pss_cons (ps_set (i := 4) sc_unclear_nodes.nd rfl (Or.inl rfl) (pe_fn Gn hr (by omega) rfl passL (pa_cons (pv 3) (pa_cons (pe_fn Gf hr (by omega) rfl passL (pa_cons (pv 0) (pa_cons (pv 2) (pa_cons (pv 1) pa_nil)))) pa_nil))))
  (pss_one (ps_if (pt_cmpR op_notN (pv 4) pe_non (nomark _))
  (pss_one (ps_ret (pe_op op_catA (pe_tup (pa_cons (pv 2) pa_nil)) (pv 4))))
  pss_nil))))
  (pss_one (ps_ret pe_non))), go _ (?_ : wS _ _ ⟨[some (.val (FD ns)), some (.val (foD fo)), none, none, none], none, 0⟩ _)⟩
  try dsimp only [L2.cxOf]
  repeat' walk_at "w"
  refine ⟨fun i δ => ∃ o1 o2 o3, clL ns fo = clL (ns.drop i) fo ∧ δ = ⟨[some (.val (FD ns)), some (.val (foD fo)), o1, o2, o3], none, 0⟩, ⟨none, none, none, rfl, rfl⟩, ?_, ?_⟩
  · rintro i d δ hdd ⟨o1, o2, o3, he, rfl⟩
    rw [enu_get] at hdd
    obtain ⟨d', hd', rfl⟩ := Option.map_eq_some_iff.mp hdd
    obtain ⟨x, hx, rfl⟩ := ndL_get hd'
    have hm := List.mem_of_getElem? hx
    rw [drop_at hx, clL] at he
    refine wG_tup (is := [2, 3]) rfl rfl ?_
    dsimp only [puts]
    rw [Nat.zero_add]
    repeat' walk_at "w"
    refine ⟨(ns, i, fo), ⟨hg, hd⟩, rfl, fun d hd => ?_, fun _ => id⟩
    rw [hd]
    repeat' walk_at "w"
    refine ⟨(x, sideB (ns.drop (i + 1)) fo), ⟨gdL_mem hg x hm, Nat.lt_of_le_of_lt (dpL_le.mp (Nat.le_refl _) x hm) (by assumption), sideB_len _ _⟩, rfl, fun d hd => ?_, fun _ => id⟩
    have hd : unP (clN x (sideB (ns.drop (i + 1)) fo)) (2 * n - 1) d := hd
    rcases hd with ⟨hb, rfl⟩ | ⟨hb, l, rfl, hl⟩
    · repeat' walk_at "w"
      refine wR_notX ?_
      repeat' walk_at "w"
      exact ⟨_, _, _, by rw [he, hb, Bool.true_and], rfl⟩
    · repeat' walk_at "w"
      refine wR_notX ?_
      repeat' walk_at "w"
      refine ⟨by simp, ?_⟩
      repeat' walk_at "w"
      · simp; omega
      · exact .inr ⟨by rw [he, hb, Bool.false_and], _, rfl, by simp; omega⟩
  · rintro δ ⟨o1, o2, o3, he, rfl⟩
    rw [List.drop_of_length_le (by rw [enu_len, ndL_len]; exact Nat.le_refl _), clL] at he
    repeat' walk_at "w"
    exact .inl ⟨he, rfl⟩
theorem ok_unclear {n : Nat} (fx : Fx K mg wc nf) (F : FnP K "unclear" "unclear" s_unclear f fd) (Gn : Fn P w K mg base "unclear_nodes" ["nodes", "follow"] k (spA K wc nf (cUc n))) :
    FnOk P w K mg base (L2.CX P w) (k + 1) f fd ["form"] (spA K wc nf (cUnclear n)) := by
  refine F.ok sc_unclear (spA_len fun a _ => rfl) fun cdv A outer s H vs Q E hr h => ?_
  obtain ⟨ns, pre, go⟩ := pure_A (N := N_unclear) (fun a _ => by simp [cUnclear]) h
  obtain ⟨aE, hAT, sAT⟩ := fx.gAT_END
  refine ⟨_, (pss_one (ps_ret (pe_fn Gn hr (by omega) rfl passL (pa_cons (pv 0) (pa_cons (pe_glob (v := .ref aE) rfl hAT rfl) pa_nil))))), go _ (?_ : wS _ _ ⟨[some (.val (FD ns))], none, 0⟩ _)⟩
  try dsimp only [L2.cxOf]
  repeat' walk_at "w"
  refine wE_ref (l := [.str [], .bl true]) sAT (fun P H => .cons (by unfold Rep; rfl) (.cons (by unfold Rep; rfl) .nil)) ?_
  repeat' walk_at "w"
  refine ⟨(ns, ([], true)), ⟨pre.1, pre.2, by simp⟩, rfl, fun d hd => ?_, fun _ => id⟩
  repeat' walk_at "w"
  exact hd
end

/-! W10: readied. -/
abbrev s_side_readied : Stmt := top 45
abbrev N_side_readied : List Str := ["truth", "nodes", "follow"]
theorem sc_side_readied : FnScope N_side_readied ["truth", "nodes", "follow"] (defScope s_side_readied) := ⟨rfl, rfl, rfl, by decide +kernel, rfl, by decide +kernel, by decide +kernel⟩
abbrev s_node_readied : Stmt := top 46
abbrev N_node_readied : List Str := ["node", "follow", "truth"]
theorem sc_node_readied : FnScope N_node_readied ["node", "follow"] (defScope s_node_readied) := ⟨rfl, rfl, rfl, by decide +kernel, rfl, by decide +kernel, by decide +kernel⟩
abbrev s_readied : Stmt := top 47
abbrev N_readied : List Str := ["nodes", "follow", "at", "node"]
theorem sc_readied : FnScope N_readied ["nodes", "follow"] (defScope s_readied) := ⟨rfl, rfl, rfl, by decide +kernel, rfl, by decide +kernel, by decide +kernel⟩
def cRd (n : Nat) : CtA (List Node × Fo) := { args := fun a => [FD a.1, foD a.2], pre := fun a => gdL a.1 ∧ dpL a.1 < n, post := fun a d => d = .lst (rdDs a.1 a.2) }
def cRn (n : Nat) : CtA (Node × Fo) := { args := fun a => [ndN a.1, foD a.2], pre := fun a => gdN a.1 ∧ dpN a.1 < n, post := fun a d => d = rdD a.1 a.2 }
def cRs (n : Nat) : CtA (Bool × List Node × Fo) := { args := fun a => [.bl a.1, FD a.2.1, foD a.2.2], pre := fun a => gdL a.2.1 ∧ dpL a.2.1 < n, post := fun a d => d = .tup [.bl a.1, foD (sideB a.2.1 a.2.2), .lst (rdDs a.2.1 a.2.2)] }
theorem rdDs_len : ∀ (ns : List Node) (fo : Fo), (rdDs ns fo).length = ns.length
  | [], fo => by rw [rdDs]; rfl
  | n :: ns, fo => by rw [rdDs, List.length_cons, List.length_cons, rdDs_len ns]
theorem rdDs_get : ∀ (ns : List Node) (fo : Fo) (i : Nat) (x : Node), ns[i]? = some x → (rdDs ns fo)[i]? = some (rdD x (sideB (ns.drop (i + 1)) fo))
  | [], fo, i, x, h => by simp at h
  | n :: ns, fo, 0, x, h => by simp at h; rw [rdDs, h]; rfl
  | n :: ns, fo, i + 1, x, h => by rw [rdDs, List.getElem?_cons_succ]; exact rdDs_get ns fo i x (by simpa using h)
section
variable {P : Program} {w : World} {K : PySem.W.Frag} {mg : Str → Option Value} {base : Heap} {f : Addr} {fd : FuncData} {wc : Way → Addr} {nf : Addr} {k : Nat}
theorem ok_side_readied {n : Nat} (fx : Fx K mg wc nf) (F : FnP K "side_readied" "side_readied" s_side_readied f fd) (Gs : Fn P w K mg base "side_begins" ["nodes", "follow"] k (spA K wc nf (cSide n))) (Gr : Fn P w K mg base "readied" ["nodes", "follow"] k (spA K wc nf (cRd n))) :
    FnOk P w K mg base (L2.CX P w) (k + 1) f fd ["truth", "nodes", "follow"] (spA K wc nf (cRs n)) := by
  refine F.ok sc_side_readied (spA_len fun a _ => rfl) fun cdv A outer s H vs Q E hr h => ?_
  obtain ⟨⟨b, ns, fo⟩, pre, go⟩ := pure_A (N := N_side_readied) (fun a _ => by simp [cRs]) h
  refine ⟨_, (pss_one (ps_ret (pe_tup (pa_cons (pv 0) (pa_cons (pe_fn Gs hr (by omega) rfl passL (pa_cons (pv 1) (pa_cons (pv 2) pa_nil))) (pa_cons (pe_fn Gr hr (by omega) rfl passL (pa_cons (pv 1) (pa_cons (pv 2) pa_nil))) pa_nil)))))), go _ (?_ : wS _ _ ⟨[some (.val (.bl b)), some (.val (FD ns)), some (.val (foD fo))], none, 0⟩ _)⟩
  try dsimp only [L2.cxOf]
  repeat' walk_at "w"
  refine ⟨(ns, fo), pre, rfl, fun d hd => ?_, fun _ => id⟩
  rw [hd]
  repeat' walk_at "w"
  refine ⟨(ns, fo), pre, rfl, fun d hd => ?_, fun _ => id⟩
  rw [hd]
  repeat' walk_at "w"
  exact ⟨by simp, rfl⟩
theorem ok_node_readied {n : Nat} (fx : Fx K mg wc nf) (F : FnP K "node_readied" "node_readied" s_node_readied f fd) (Gw : Fn P w K mg base "way_of" ["word"] k (spA K wc nf cWayOf)) (Gb : Fn P w K mg base "begins" ["nodes"] k (spA K wc nf (cBg n))) (Ga : Fn P w K mg base "again_begins" ["node"] k (spA K wc nf (cAgain n)))
    (Gr : Fn P w K mg base "readied" ["nodes", "follow"] k (spA K wc nf (cRd n))) (Gi : Fn P w K mg base "within_loop" ["node", "follow"] k (spA K wc nf (cWithin n))) (Gd : Fn P w K mg base "side_readied" ["truth", "nodes", "follow"] k (spA K wc nf (cRs n))) :
    FnOk P w K mg base (L2.CX P w) (k + 1) f fd ["node", "follow"] (spA K wc nf (cRn (n + 1))) := by
  refine F.ok sc_node_readied (spA_len fun a _ => rfl) fun cdv A outer s H vs Q E hr h => ?_
  obtain ⟨⟨x, fo⟩, pre, go⟩ := pure_A (N := N_node_readied) (fun a _ => by simp [cRn]) h
  obtain ⟨hg, hd⟩ : gdN x ∧ dpN x < n + 1 := pre
  refine ⟨_, (pss_cons (ps_if (pt_cmpR op_eq (pe_ix ix_tup (pv 0) pe_int (fun _ _ => rfl)) pe_str (nomark _))
  (pss_one (ps_ret (pe_tup (pa_cons pe_str (pa_cons (pe_fn Gw hr (by omega) rfl passL (pa_cons (pe_ix ix_tup (pv 0) pe_int (fun _ _ => rfl)) pa_nil)) pa_nil)))))
  pss_nil)
  (pss_cons (ps_if (pt_cmpR op_eq (pe_ix ix_tup (pv 0) pe_int (fun _ _ => rfl)) pe_str (nomark _))
  (pss_one (ps_ret (pe_tup (pa_cons pe_str (pa_cons (pe_ix ix_tup (pe_fn Gb hr (by omega) rfl passL (pa_cons (pe_ix ix_tup (pv 0) pe_int (fun _ _ => rfl)) pa_nil)) pe_int (fun _ _ => rfl)) (pa_cons (pe_fn Ga hr (by omega) rfl passL (pa_cons (pv 0) pa_nil)) (pa_cons (pe_fn Gr hr (by omega) rfl passL (pa_cons (pe_ix ix_tup (pv 0) pe_int (fun _ _ => rfl)) (pa_cons (pe_fn Gi hr (by omega) rfl passL (pa_cons (pv 0) (pa_cons (pv 1) pa_nil))) pa_nil))) (pa_cons (pe_ix ix_tup (pv 0) pe_int (fun _ _ => rfl)) pa_nil))))))))
  pss_nil)
  (pss_cons (ps_if (pt_cmpR op_eq (pe_ix ix_tup (pv 0) pe_int (fun _ _ => rfl)) pe_str (nomark _))
  (pss_one (ps_ret (pe_tup (pa_cons pe_str (pa_cons (pe_lc (own := [("truth", 2)]) (by rfl) sc_node_readied.nd (pi_tup (pe_tup (pa_cons pe_bl (pa_cons pe_bl pa_nil)))) (blkOk_by (own := [("truth", 2)]) (N := N_node_readied) (sc := defScope s_node_readied) (by decide +kernel)) (fun _ _ _ _ _ => (pg_name (i := 2) sc_node_readied.nd rfl (Or.inl rfl))) (fun _ _ _ _ _ => pts_nil) (fun _ _ _ _ _ => (pe_fn Gd hr (by omega) rfl passL (pa_cons (pv 2) (pa_cons (pe_ix (show IxR _ (rIxT K) from ix_tup) (pv 0) (pe_op op_sub pe_int (pe_callTy call_int1 (by rfl) fx.b_int bb_int (pa_cons (pv 2) pa_nil))) (fun _ _ => rfl)) (pa_cons (pv 1) pa_nil)))))) pa_nil)))))
  pss_nil)
  (pss_one (ps_ret (pv 0)))))), go _ (?_ : wS _ _ ⟨[some (.val (ndN x)), some (.val (foD fo)), none], none, 0⟩ _)⟩
  try dsimp only [L2.cxOf]
  cases x with
  | text t =>
    have e0 : ndN (.text t) = .tup [.str (cs "text"), .str t] := by rw [ndN]
    rw [e0]
    repeat' walk_at "w"
    show _ = rdD (.text t) fo
    rw [rdD]
  | place p v =>
    rw [show ndN (.place p v) = .tup [.str (cs "place"), pthD p, .str (wayS v)] from by rw [ndN]]
    repeat' walk_at "w"
    refine ⟨v, trivial, rfl, fun d hd => ?_, fun _ => id⟩
    rw [hd]
    repeat' walk_at "w"
    refine ⟨by simp, ?_⟩
    show _ = rdD (.place p v) fo
    rw [rdD]
  | loop nm p b btw =>
    rw [gdN] at hg; rw [dpN] at hd
    have lok : loOk n (nm, p, b, btw) := ⟨hg, (by show dpL b < n; omega)⟩
    have e0 : ndN (loN (nm, p, b, btw)) = .tup [.str (cs "loop"), .str nm, pthD p, FD b, .str btw] := loN_eq ..
    rw [show ndN (.loop nm p b btw) = .tup [.str (cs "loop"), .str nm, pthD p, FD b, .str btw] from e0]
    repeat' walk_at "w"
    refine ⟨b, ⟨hg.1, lok.2⟩, rfl, fun d hd => ?_, fun _ => id⟩
    rw [hd]
    repeat' walk_at "w"
    refine ⟨(nm, p, b, btw), lok, by rw [← e0]; rfl, fun d hd => ?_, fun _ => id⟩
    rw [hd]
    repeat' walk_at "w"
    refine ⟨((nm, p, b, btw), fo), lok, by rw [← e0]; rfl, fun d hd => ?_, fun _ => id⟩
    rw [hd]
    repeat' walk_at "w"
    refine ⟨(b, withinL b btw fo), ⟨hg.1, lok.2⟩, rfl, fun d hd => ?_, fun _ => id⟩
    rw [hd]
    repeat' walk_at "w"
    refine ⟨by simp, ?_⟩
    show _ = rdD (.loop nm p b btw) fo
    rw [rdD]
  | choice p y m =>
    rw [gdN] at hg; rw [dpN] at hd
    rw [show ndN (.choice p y m) = .tup [.str (cs "choice"), pthD p, FD y, FD m] from by rw [ndN]]
    repeat' walk_at "w"
    refine wE_lcM (gw_name (by simp)) ?_
    repeat' walk_at "w"
    refine ⟨by simp, [.bl true, .bl false], rfl, [.tup [.bl true, foD (sideB y fo), .lst (rdDs y fo)], .tup [.bl false, foD (sideB m fo), .lst (rdDs m fo)]], by simp, rfl, ?_, ?_⟩
    · intro i d hd
      have hi : (i = 0 ∧ d = .bl true) ∨ (i = 1 ∧ d = .bl false) := by
        cases i with
        | zero => simp at hd; exact .inl ⟨rfl, hd.symm⟩
        | succ i =>
          cases i with
          | zero => simp at hd; exact .inr ⟨rfl, hd.symm⟩
          | succ i => simp at hd
      rcases hi with ⟨rfl, rfl⟩ | ⟨rfl, rfl⟩
      · repeat' walk_at "w"
        refine ⟨(true, y, fo), ⟨hg.1, (by show dpL y < n; omega)⟩, rfl, fun d hd => ?_, fun _ => id⟩
        rw [hd]
        exact ⟨rfl, rfl⟩
      · repeat' walk_at "w"
        refine ⟨(false, m, fo), ⟨hg.2, (by show dpL m < n; omega)⟩, rfl, fun d hd => ?_, fun _ => id⟩
        rw [hd]
        exact ⟨rfl, rfl⟩
    · repeat' walk_at "w"
      refine ⟨by simp, ?_⟩
      show _ = rdD (.choice p y m) fo
      rw [rdD]
theorem ok_readied {n : Nat} (fx : Fx K mg wc nf) (F : FnP K "readied" "readied" s_readied f fd) (Gn : Fn P w K mg base "node_readied" ["node", "follow"] k (spA K wc nf (cRn n))) (Gf : Fn P w K mg base "follows" ["nodes", "at", "follow"] k (spA K wc nf (cFollows n))) :
    FnOk P w K mg base (L2.CX P w) (k + 1) f fd ["nodes", "follow"] (spA K wc nf (cRd n)) := by
  refine F.ok sc_readied (spA_len fun a _ => rfl) fun cdv A outer s H vs Q E hr h => ?_
  obtain ⟨⟨ns, fo⟩, pre, go⟩ := pure_A (N := N_readied) (fun a _ => by simp [cRd]) h
  obtain ⟨hg, hd⟩ : gdL ns ∧ dpL ns < n := pre
  refine ⟨_, (pss_one (ps_ret (pe_lc (own := [("at", 2), ("node", 3)]) (by rfl) sc_readied.nd (pi_enumT (by rfl) fx.b_enumerate (pa_cons (pv 0) pa_nil)) (blkOk_by (own := [("at", 2), ("node", 3)]) (N := N_readied) (sc := defScope s_readied) (by decide +kernel)) (fun _ _ _ _ _ => (show PG _ _ (gTup K 2 (gsN [2, 3])) from (pg_tup (by rfl) (pgs_cons (pg_name (i := 2) sc_readied.nd rfl (Or.inl rfl)) (pgs_cons (pg_name (i := 3) sc_readied.nd rfl (Or.inl rfl)) pgs_nil))))) (fun _ _ _ _ _ => pts_nil) (fun _ _ _ _ _ => (pe_fn Gn hr (by omega) rfl passL (pa_cons (pv 3) (pa_cons (pe_fn Gf hr (by omega) rfl passL (pa_cons (pv 0) (pa_cons (pv 2) (pa_cons (pv 1) pa_nil)))) pa_nil))))))), go _ (?_ : wS _ _ ⟨[some (.val (FD ns)), some (.val (foD fo)), none, none], none, 0⟩ _)⟩
  try dsimp only [L2.cxOf]
  repeat' walk_at "w"
  refine wE_lcM (gw_tup (by simp)) ?_
  repeat' walk_at "w"
  refine ⟨rdDs ns fo, ?_, ?_, fun i d hdd => ?_, rfl⟩
  · rw [enu_len, ndL_len]; have := gdL_len hg; omega
  · rw [enu_len, ndL_len, rdDs_len]
  · rw [enu_get] at hdd
    obtain ⟨d', hd', rfl⟩ := Option.map_eq_some_iff.mp hdd
    obtain ⟨x, hx, rfl⟩ := ndL_get hd'
    have hm := List.mem_of_getElem? hx
    refine wG_tup rfl rfl ?_
    dsimp only [puts]
    rw [Nat.zero_add]
    repeat' walk_at "w"
    refine ⟨(ns, i, fo), ⟨hg, hd⟩, rfl, fun d hd => ?_, fun _ => id⟩
    rw [hd]
    repeat' walk_at "w"
    refine ⟨(x, sideB (ns.drop (i + 1)) fo), ⟨gdL_mem hg x hm, Nat.lt_of_le_of_lt (dpL_le.mp (Nat.le_refl _) x hm) (by assumption)⟩, rfl, fun d hd => ?_, fun _ => id⟩
    rw [hd]
    exact ⟨rdDs_get ns fo i x hx, rfl⟩
end

/-! W11: reading. -/
abbrev s_text_read : Stmt := top 48
abbrev N_text_read : List Str := ["wanted", "text", "at", "sign"]
theorem sc_text_read : FnScope N_text_read ["wanted", "text", "at"] (defScope s_text_read) := ⟨rfl, rfl, rfl, by decide +kernel, rfl, by decide +kernel, by decide +kernel⟩
abbrev s_loop_read : Stmt := top 49
abbrev N_loop_read : List Str := ["node", "text", "at", "word", "first", "again", "nodes", "between", "rounds", "own"]
theorem sc_loop_read : FnScope N_loop_read ["node", "text", "at"] (defScope s_loop_read) := ⟨rfl, rfl, rfl, by decide +kernel, rfl, by decide +kernel, by decide +kernel⟩
abbrev s_choice_read : Stmt := top 50
abbrev N_choice_read : List Str := ["node", "text", "at", "truth", "side", "nodes", "own", "behind"]
theorem sc_choice_read : FnScope N_choice_read ["node", "text", "at"] (defScope s_choice_read) := ⟨rfl, rfl, rfl, by decide +kernel, rfl, by decide +kernel, by decide +kernel⟩
abbrev s_node_read : Stmt := top 51
abbrev N_node_read : List Str := ["node", "text", "at", "found"]
theorem sc_node_read : FnScope N_node_read ["node", "text", "at"] (defScope s_node_read) := ⟨rfl, rfl, rfl, by decide +kernel, rfl, by decide +kernel, by decide +kernel⟩
abbrev s_nodes_read : Stmt := top 52
abbrev N_nodes_read : List Str := ["nodes", "text", "at", "fill", "node", "one"]
theorem sc_nodes_read : FnScope N_nodes_read ["nodes", "text", "at"] (defScope s_nodes_read) := ⟨rfl, rfl, rfl, by decide +kernel, rfl, by decide +kernel, by decide +kernel⟩
abbrev s_read_back : Stmt := top 53
abbrev N_read_back : List Str := ["form", "text", "fill", "at"]
theorem sc_read_back : FnScope N_read_back ["form", "text"] (defScope s_read_back) := ⟨rfl, rfl, rfl, by decide +kernel, rfl, by decide +kernel, by decide +kernel⟩
/-- how a NoFill is made -/
structure NfI (P : Program) (w : World) (K : PySem.W.Frag) (mg : Str → Option Value) (base : Heap) (nf : Addr) (n : Nat) : Prop where
  ex : ∃ fI fd, PySem.W.findIn K (.ref nf) "__init__" = some (some (.ref fI)) ∧ PySem.W.typeIn K (.ref fI) = some (.type "function") ∧ Binds K fd ["self", "at"] [] ∧ FnOk P w K mg base (L2.CX P w) n fI fd ["self", "at"] (spI nf)
theorem nofill_mk {X : Cx} {wc : Way → Addr} {nf : Addr} {n k : Nat} {e : Expr} {es : List Expr} {ta : TA} {p pos : Pos} (fx : Fx X.K X.mg wc nf) (N : NfI X.prog X.w X.K X.mg X.base nf n) (hr : Room k X.A) (hn : n + 1 ≤ k) (hg : Gl X "NoFill") (ha : PA X (e :: es) ta)
    (he : starEach (e :: es) X.env = (false, eval e X.env) :: starEach es X.env := by rfl) (hpl : (backTo pos (starEach es X.env)).any (·.1) = false := by rfl) :
    PMk X (.Call (.Name "NoFill" p) (e :: es) [] pos) (tMkO nf (spI nf) [] ta) := by
  obtain ⟨fI, fd, h1, h2, h3, h4⟩ := N.ex
  exact pmk_oex fx.nfo h1 h2 h4 (hr.mono hn) h3 .nil passL hg fx.nfm ha (by decide) he hpl
def posD (s : T) (r : T) : D := .int ((s.length - r.length : Nat) : Int)
def cTr : CtA (T × T × Nat) := { args := fun a => [.str a.1, .str a.2.1, .int a.2.2], pre := fun a => a.2.1.length ≤ 16000000 ∧ a.2.2 ≤ a.2.1.length, post := fun a d => (∃ r, stripP a.1 (a.2.1.drop a.2.2) = some r ∧ d = posD a.2.1 r), bad := fun a n => (stripP a.1 (a.2.1.drop a.2.2) = none ∧ 0 ≤ n ∧ n ≤ (a.2.1.length : Int)) }
def inT (s : T) (n : Int) : Prop := 0 ≤ n ∧ n ≤ (s.length : Int)
def cNr (n : Nat) : CtA (List Node × Fo × T × Nat) := { args := fun a => [.lst (rdDs a.1 a.2.1), .str a.2.2.1, .int a.2.2.2], pre := fun a => (gdL a.1 ∧ nvL a.1 ∧ dpL a.1 < n) ∧ a.2.2.1.length ≤ 16000000 ∧ a.2.2.2 ≤ a.2.2.1.length, post := fun a d => (∃ fs r, rdL a.1 a.2.1 (a.2.2.1.drop a.2.2.2) = some (fs, r) ∧ d = .tup [.lst (fiL fs), posD a.2.2.1 r]), bad := fun a m => (rdL a.1 a.2.1 (a.2.2.1.drop a.2.2.2) = none ∧ inT a.2.2.1 m) }
def cNd (n : Nat) : CtA (Node × Fo × T × Nat) := { args := fun a => [rdD a.1 a.2.1, .str a.2.2.1, .int a.2.2.2], pre := fun a => (gdN a.1 ∧ nvN a.1 ∧ dpN a.1 < n ∧ isText a.1 = false) ∧ a.2.2.1.length ≤ 16000000 ∧ a.2.2.2 ≤ a.2.2.1.length, post := fun a d => (∃ f r, rdN a.1 a.2.1 (a.2.2.1.drop a.2.2.2) = some (f, r) ∧ d = .tup [fiD f, posD a.2.2.1 r]), bad := fun a m => (rdN a.1 a.2.1 (a.2.2.1.drop a.2.2.2) = none ∧ inT a.2.2.1 m) }
def isLoop : Node → Bool
  | .loop .. => true
  | _ => false
def isChoice : Node → Bool
  | .choice .. => true
  | _ => false
def cLr (n : Nat) : CtA (Node × Fo × T × Nat) := { cNd n with pre := fun a => (cNd n).pre a ∧ isLoop a.1 = true }
def cHr (n : Nat) : CtA (Node × Fo × T × Nat) := { cNd n with pre := fun a => (cNd n).pre a ∧ isChoice a.1 = true }
/-- the rest of a text that is read from a place on is the text from a place on -/
theorem rest_at {s x r : T} {n : Nat} (h : s.drop n = x ++ r) (hn : n ≤ s.length) : n ≤ s.length - r.length ∧ s.length - r.length ≤ s.length ∧ s.drop (s.length - r.length) = r ∧ s.length - r.length = n + x.length := by
  have hl := congrArg List.length h
  rw [List.length_drop, List.length_append] at hl
  have e : s.length - r.length = n + x.length := by omega
  refine ⟨by omega, by omega, ?_, e⟩
  rw [e, ← List.drop_drop, h, List.drop_left]
theorem readW_app {w : Way} {s r : T} {v : Vl} (h : readW w s = some (v, r)) : s = marked w v ++ r := (readW_sound h).2
theorem rdLoop_zero {body : T → Option (List Fill × T)} {btw again : T} {k : Nat} {s : T} (h : here s again false = false) : rdLoop body btw again (k + 1) s = some ([], s) := by
  rw [rdLoop, if_neg (by rw [h]; simp)]
theorem rdLoop_more {body : T → Option (List Fill × T)} {btw again : T} {k : Nat} {s : T} (h : here s again false = true) : rdLoop body btw again (k + 1) s = (match stripP btw s with
    | none => none
    | some s1 => match body s1 with
      | none => none
      | some (f, s2) => (rdLoop body btw again k s2).map fun q => (f :: q.1, q.2)) := by
  conv => lhs; rw [rdLoop]
  rw [if_pos h] <;> rfl
theorem here_cons {t : T} {n c : Nat} {z : T} {b : Bool} (h : t[n]? = some c) : here (t.drop n) z b = decide (c ∈ z) := by rw [drop_cons h]; rfl
theorem here_end {t : T} {n : Nat} {z : T} {b : Bool} (h : t.length ≤ n) : here (t.drop n) z b = b := by rw [List.drop_eq_nil_of_le h]; rfl
theorem fiL_app (a b : List Fill) : fiL (a ++ b) = fiL a ++ fiL b := by rw [fiL_map, fiL_map, fiL_map, List.map_append]
theorem fiR_app (a b : List (List Fill)) : fiR (a ++ b) = fiR a ++ fiR b := by rw [fiR_map, fiR_map, fiR_map, List.map_append]
theorem rdL_node {x : Node} {ns : List Node} {fo : Fo} {s : T} (h : isText x = false) : rdL (x :: ns) fo s = (match rdN x (sideB ns fo) s with
    | none => none
    | some (f, s1) => (rdL ns fo s1).map fun q => (f :: q.1, q.2) : Option (List Fill × T)) := by
  cases x with
  | text u => cases h
  | place p v =>
    rw [rdL] <;> first | rfl | (intro t e; cases e)
  | loop nm p b btw =>
    rw [rdL] <;> first | rfl | (intro t e; cases e)
  | choice p y m =>
    rw [rdL] <;> first | rfl | (intro t e; cases e)
theorem posD_drop {s : T} {j : Nat} (h : j ≤ s.length) : posD s (s.drop j) = .int (j : Int) := by
  unfold posD
  rw [List.length_drop]
  congr 2; omega
theorem stripP_step {c d : Nat} {t s : T} : stripP (c :: t) (d :: s) = if d = c then stripP t s else none := rfl
section
variable {P : Program} {w : World} {K : PySem.W.Frag} {mg : Str → Option Value} {base : Heap} {f : Addr} {fd : FuncData} {wc : Way → Addr} {nf : Addr} {k : Nat}
theorem ok_text_read {n0 : Nat} (fx : Fx K mg wc nf) (hnf : NfI P w K mg base nf n0) (hk : n0 + 1 ≤ k) (F : FnP K "text_read" "text_read" s_text_read f fd) : FnOk P w K mg base (L2.CX P w) (k + 1) f fd ["wanted", "text", "at"] (spA K wc nf cTr) := by
  refine F.ok sc_text_read (spA_len fun a _ => rfl) fun cdv A outer s H vs Q E hr h => ?_
  obtain ⟨⟨u, t, n⟩, pre, go⟩ := pure_A (N := N_text_read) (fun a _ => by simp [cTr]) h
  obtain ⟨hl, hn⟩ : t.length ≤ 16000000 ∧ n ≤ t.length := pre
  refine ⟨_, (pss_cons (ps_for (passes_of rfl) (by rfl) (pi_str (pv 0)) (pg_name (i := 3) sc_text_read.nd rfl (Or.inl rfl))
  (pss_cons (ps_if (pt_cmpR op_ne (pe_slice sl_str (pv 1) (po_some (pv 2)) (po_some (pe_op op_add (pv 2) pe_int))) (pv 3) (nomark _))
  (pss_one (ps_raise (by rfl) (takes_of rfl rfl rfl rfl) (nofill_mk fx hnf hr (by omega) (by rfl) (pa_cons (pv 2) pa_nil))))
  pss_nil)
  (pss_one (ps_aug (i := 2) sc_text_read.nd rfl (Or.inl rfl) pe_int ip_add))))
  (pss_one (ps_ret (pv 2)))), go _ (?_ : wS _ _ ⟨[some (.val (.str u)), some (.val (.str t)), some (.val (.int n)), none], none, 0⟩ _)⟩
  try dsimp only [L2.cxOf]
  repeat' walk_at "w"
  refine ⟨fun i δ => ∃ j o, j ≤ t.length ∧ stripP u (t.drop n) = stripP (u.drop i) (t.drop j) ∧ δ = ⟨[some (.val (.str u)), some (.val (.str t)), some (.val (.int (j : Nat))), o], none, 0⟩, ⟨n, none, hn, rfl, rfl⟩, ?_, ?_⟩
  · rintro i d δ hd ⟨j, o, hj, he, rfl⟩
    obtain ⟨c, hc, rfl⟩ := sgs_get hd
    rw [drop_cons hc] at he
    repeat' walk_at "w"
    · omega
    rw [cut_one]
    refine ite_b (fun hb => ?_) fun hb => ?_
    · repeat' walk_at "w"
      refine wS_raise ?_
      repeat' walk_at "w"
      have hb : (t.drop j).take 1 ≠ [c] := by simpa using hb
      show stripP u (t.drop n) = none ∧ (0 : Int) ≤ (j : Int) ∧ (j : Int) ≤ (t.length : Int)
      refine ⟨?_, by omega, by omega⟩
      rw [he]
      cases hdj : t.drop j with
      | nil => rfl
      | cons d r =>
        rw [hdj] at hb
        rw [stripP_step, if_neg (fun z => hb (by rw [z]; rfl))]
    · have hb : (t.drop j).take 1 = [c] := by simpa using hb
      have hcj := take_one.mp hb
      have := (List.getElem?_eq_some_iff.mp hcj).1
      repeat' walk_at "w"
      exact ⟨j + 1, _, by omega, by rw [he, drop_cons hcj, stripP_step, if_pos rfl], rfl⟩
  · rintro δ ⟨j, o, hj, he, rfl⟩
    have e : u.drop (sgs u).length = [] := by rw [List.length_map]; exact List.drop_length
    rw [e] at he
    repeat' walk_at "w"
    show ∃ r, stripP u (t.drop n) = some r ∧ D.int (j : Int) = posD t r
    refine ⟨t.drop j, by rw [he]; cases t.drop j <;> rfl, ?_⟩
    unfold posD
    rw [List.length_drop]
    congr 2; omega
theorem ok_nodes_read {n : Nat} (fx : Fx K mg wc nf) (F : FnP K "nodes_read" "nodes_read" s_nodes_read f fd) (Gt : Fn P w K mg base "text_read" ["wanted", "text", "at"] k (spA K wc nf cTr)) (Gn : Fn P w K mg base "node_read" ["node", "text", "at"] k (spA K wc nf (cNd n))) :
    FnOk P w K mg base (L2.CX P w) (k + 1) f fd ["nodes", "text", "at"] (spA K wc nf (cNr n)) := by
  refine F.ok sc_nodes_read (spA_len fun a _ => rfl) fun cdv A outer s H vs Q E hr h => ?_
  obtain ⟨⟨ns, fo, t, n0⟩, pre, go⟩ := pure_A (N := N_nodes_read) (fun a _ => by simp [cNr]) h
  obtain ⟨⟨hg, hnv, hd⟩, hl, hn⟩ : (gdL ns ∧ nvL ns ∧ dpL ns < n) ∧ t.length ≤ 16000000 ∧ n0 ≤ t.length := pre
  refine ⟨_, (pss_cons (ps_set (i := 3) sc_nodes_read.nd rfl (Or.inl rfl) (pe_lst pa_nil))
  (pss_cons (ps_for (passes_of rfl) (by rfl) (pi_list (pv 0)) (pg_name (i := 4) sc_nodes_read.nd rfl (Or.inl rfl))
  (pss_one (ps_if (pt_cmpR op_eq (pe_ix ix_tup (pv 4) pe_int (fun _ _ => rfl)) pe_str (nomark _))
  (pss_one (ps_set (i := 2) sc_nodes_read.nd rfl (Or.inl rfl) (pe_fn Gt hr (by omega) rfl (passes_call (takes_of rfl rfl rfl rfl) (fun _ _ _ _ h => h)) (pa_cons (pe_ix ix_tup (pv 4) pe_int (fun _ _ => rfl)) (pa_cons (pv 1) (pa_cons (pv 2) pa_nil))))))
  (pss_cons (ps_asg (pe_fn Gn hr (by omega) rfl (passes_call (takes_of rfl rfl rfl rfl) (fun _ _ _ _ h => h)) (pa_cons (pv 4) (pa_cons (pv 1) (pa_cons (pv 2) pa_nil)))) (pg_tup (by rfl) (pgs_cons (pg_name (i := 5) sc_nodes_read.nd rfl (Or.inl rfl)) (pgs_cons (pg_name (i := 2) sc_nodes_read.nd rfl (Or.inl rfl)) pgs_nil))))
  (pss_one (ps_expr (pe_bm PySem.F.plainAttrs_list PySem.F.slot_list_append PySem.F.type_list_append mt_append (pv 3) (pa_cons (pv 5) pa_nil))))))))
  (pss_one (ps_ret (pe_tup (pa_cons (pv 3) (pa_cons (pv 2) pa_nil))))))), go _ (?_ : wS _ _ ⟨[some (.val (.lst (rdDs ns fo))), some (.val (.str t)), some (.val (.int n0)), none, none, none], none, 0⟩ _)⟩
  try dsimp only [L2.cxOf]
  refine wS_seq (wS_setOwn (wN_lst (wA_nil ⟨by simp, ?_⟩)))
  repeat' walk_at "w"
  refine ⟨fun i δ => ∃ (j : Nat) (fs : List Fill) (o1 o2 : Option Cell), j ≤ t.length ∧ fs.length ≤ i ∧ rdL ns fo (t.drop n0) = (rdL (ns.drop i) fo (t.drop j)).map (fun q => (fs ++ q.1, q.2)) ∧ δ = ⟨[some (.val (.lst (rdDs ns fo))), some (.val (.str t)), some (.val (.int j)), some (.own (fiL fs)), o1, o2], none, 0⟩,
    ⟨n0, [], none, none, hn, by simp, by simp, by rw [fiL]; rfl⟩, ?_, ?_⟩
  · rintro i d δ hdd ⟨j, fs, o1, o2, hj, hfs, he, rfl⟩
    have hi : i < ns.length := by have := (List.getElem?_eq_some_iff.mp hdd).1; rwa [rdDs_len] at this
    have hx : ns[i]? = some ns[i] := List.getElem?_eq_getElem hi
    generalize ns[i] = x at hx
    rw [rdDs_get ns fo i x hx] at hdd
    cases hdd
    have hm := List.mem_of_getElem? hx
    have hgx := gdL_mem hg x hm
    have hnx : nvN x := by
      have : ∀ {l : List Node}, nvL l → ∀ y ∈ l, nvN y := fun {l} => by
        induction l with
        | nil => intro _ y hy; cases hy
        | cons a l ih =>
          intro h y hy
          rw [nvL] at h
          rcases List.mem_cons.mp hy with e | hy
          · rw [e]; exact h.1
          · exact ih h.2 y hy
      exact this hnv x hm
    have hdx : dpN x < n := Nat.lt_of_le_of_lt (dpL_le.mp (Nat.le_refl _) x hm) hd
    have h1001 := gdL_len hg
    rw [drop_at hx] at he
    by_cases ht : isText x = true
    · obtain ⟨u, rfl⟩ : ∃ u, x = .text u := by cases x <;> first | exact ⟨_, rfl⟩ | cases ht
      rw [rdL] at he
      rw [show rdD (.text u) (sideB (ns.drop (i + 1)) fo) = .tup [.str (cs "text"), .str u] from by rw [rdD]]
      repeat' walk_at "w"
      refine ⟨(u, t, j), ⟨hl, hj⟩, rfl, fun d hd => ?_, fun m hm => ?_⟩
      · obtain ⟨r, hr, rfl⟩ : ∃ r, stripP u (t.drop j) = some r ∧ d = posD t r := hd
        obtain ⟨a1, a2, a3, a4⟩ := rest_at (stripP_app hr) hj
        repeat' walk_at "w"
        refine ⟨t.length - r.length, fs, _, _, a2, by omega, ?_, rfl⟩
        rw [he, hr, a3]
      · obtain ⟨hm1, hm2⟩ : stripP u (t.drop j) = none ∧ inT t m := hm
        exact ⟨by rw [he, hm1]; rfl, hm2⟩
    · have ht : isText x = false := by simpa using ht
      have he' : rdL ns fo (t.drop n0) = (match rdN x (sideB (ns.drop (i + 1)) fo) (t.drop j) with
          | none => none
          | some (f, s1) => (rdL (ns.drop (i + 1)) fo s1).map fun q => (f :: q.1, q.2) : Option (List Fill × T)).map (fun q => (fs ++ q.1, q.2)) := by
        rw [he, rdL_node ht]
      have hD : ∃ z l, rdD x (sideB (ns.drop (i + 1)) fo) = .tup (.str z :: l) ∧ z ≠ cs "text" := by
        cases x with
        | text u => cases ht
        | place p v => exact ⟨_, _, by rw [rdD], by decide⟩
        | loop nm p b btw => exact ⟨_, _, by rw [rdD], by decide⟩
        | choice p y m => exact ⟨_, _, by rw [rdD], by decide⟩
      obtain ⟨z, l, hD, hz⟩ := hD
      repeat' walk_at "w"
      rw [hD]
      repeat' walk_at "w"
      rw [show decide (z = (Str.ofString "text").cps.toList) = false from decide_eq_false hz]
      repeat' walk_at "w"
      refine ⟨(x, sideB (ns.drop (i + 1)) fo, t, j), ⟨⟨hgx, hnx, hdx, ht⟩, hl, hj⟩, by rw [← hD]; rfl, fun d hd => ?_, fun m hm => ?_⟩
      · obtain ⟨f', r, hr, rfl⟩ : ∃ f r, rdN x (sideB (ns.drop (i + 1)) fo) (t.drop j) = some (f, r) ∧ d = .tup [fiD f, posD t r] := hd
        obtain ⟨a1, a2, a3, a4⟩ := rest_at (rdN_sound x _ _ _ _ hr).2 hj
        refine wG_tup (is := [5, 2]) rfl rfl ?_
        dsimp only [puts]
        repeat' walk_at "w"
        refine ⟨by rw [fiL_map, List.length_map]; omega, ?_⟩
        refine ⟨t.length - r.length, fs ++ [f'], some (.val (.tup (.str z :: l))), some (.val (fiD f')), a2, by simp; omega, ?_, ?_⟩
        · rw [he', hr, a3]
          simp only [Option.map_map, Function.comp_def, List.append_assoc, List.singleton_append]
        · rw [fiL_app]; rfl
      · obtain ⟨hm1, hm2⟩ : rdN x (sideB (ns.drop (i + 1)) fo) (t.drop j) = none ∧ inT t m := hm
        exact ⟨by show rdL ns fo (t.drop n0) = none; rw [he', hm1]; rfl, hm2⟩
  · rintro δ ⟨j, fs, o1, o2, hj, hfs, he, rfl⟩
    have e : ns.drop (rdDs ns fo).length = [] := by rw [rdDs_len]; exact List.drop_length
    rw [e, rdL] at he
    refine wS_freeze (i := 3) rfl ?_
    repeat' walk_at "w"
    refine ⟨by simp, ?_⟩
    show ∃ fs' r, rdL ns fo (t.drop n0) = some (fs', r) ∧ _ = _
    exact ⟨fs, t.drop j, by rw [he]; simp, by rw [posD_drop hj]⟩
end

/-! W12: node_read, choice_read, loop_read, read_back. -/
def cRB (n : Nat) : CtA (List Node × T) := { args := fun a => [FD a.1, .str a.2], pre := fun a => (gdL a.1 ∧ nvL a.1 ∧ dpL a.1 < n) ∧ allSG a.2 = true ∧ a.2.length ≤ 16000000, post := fun a d => (∃ fs, readBack a.1 a.2 = some fs ∧ d = .lst (fiL fs)), bad := fun a m => (readBack a.1 a.2 = none ∧ inT a.2 m) }
theorem wT_res {p : Pr} {δ : DSt} {tt : TT} {Φ' : Bool → DSt → Prop} (B : Bool) (h : wT p tt δ fun b δ' => b = B ∧ δ' = δ) (g : Φ' B δ) : wT p tt δ Φ' := h.mono fun b δ' z => by
  rw [z.1, z.2]; exact g
section
variable {P : Program} {w : World} {K : PySem.W.Frag} {mg : Str → Option Value} {base : Heap} {f : Addr} {fd : FuncData} {wc : Way → Addr} {nf : Addr} {k : Nat}
theorem ok_node_read {n n0 : Nat} (fx : Fx K mg wc nf) (hnf : NfI P w K mg base nf n0) (hk : n0 + 1 ≤ k) (F : FnP K "node_read" "node_read" s_node_read f fd) (cl : ∀ v, Cls K (wc v)) (Gl : Fn P w K mg base "loop_read" ["node", "text", "at"] k (spA K wc nf (cLr n))) (Gh : Fn P w K mg base "choice_read" ["node", "text", "at"] k (spA K wc nf (cHr n)))
    (Mr : ∀ v, Me P w K mg base (wc v) "read" ["self", "text", "at"] k (spA K wc nf (cRead v))) :
    FnOk P w K mg base (L2.CX P w) (k + 1) f fd ["node", "text", "at"] (spA K wc nf (cNd n)) := by
  refine F.ok sc_node_read (spA_len fun a _ => rfl) fun cdv A outer s H vs Q E hr h => ?_
  obtain ⟨⟨x, fo, t, j⟩, pre, go⟩ := pure_A (N := N_node_read) (fun a _ => by simp [cNd]) h
  obtain ⟨⟨hg, hnv, hd, ht⟩, hl, hj⟩ : (gdN x ∧ nvN x ∧ dpN x < n ∧ isText x = false) ∧ t.length ≤ 16000000 ∧ j ≤ t.length := pre
  obtain ⟨v, hv⟩ : ∃ v, ∀ p' v', x = .place p' v' → v' = v := by
    cases x with
    | place p' v' => exact ⟨v', fun _ _ e => by cases e; rfl⟩
    | _ => exact ⟨.plain, fun _ _ e => by cases e⟩
  refine ⟨_, (pss_cons (ps_if (pt_cmpR op_eq (pe_ix ix_tup (pv 0) pe_int (fun _ _ => rfl)) pe_str (nomark _))
  (pss_one (ps_ret (pe_fn Gl hr (by omega) rfl (passes_call (takes_of rfl rfl rfl rfl) (fun _ _ _ _ h => h)) (pa_cons (pv 0) (pa_cons (pv 1) (pa_cons (pv 2) pa_nil))))))
  pss_nil)
  (pss_cons (ps_if (pt_cmpR op_eq (pe_ix ix_tup (pv 0) pe_int (fun _ _ => rfl)) pe_str (nomark _))
  (pss_one (ps_ret (pe_fn Gh hr (by omega) rfl (passes_call (takes_of rfl rfl rfl rfl) (fun _ _ _ _ h => h)) (pa_cons (pv 0) (pa_cons (pv 1) (pa_cons (pv 2) pa_nil))))))
  pss_nil)
  (pss_cons (ps_set (i := 3) sc_node_read.nd rfl (Or.inl rfl) (pe_me (cl v) (Mr v) hr (by omega) passL (pe_ix ix_tup (pv 0) pe_int (fun _ _ => rfl)) (pa_cons (pv 1) (pa_cons (pv 2) pa_nil))))
  (pss_cons (ps_if (pt_cmpR op_isN (pv 3) pe_non (nomark _))
  (pss_one (ps_raise (by rfl) (takes_of rfl rfl rfl rfl) (nofill_mk fx hnf hr (by omega) (by rfl) (pa_cons (pv 2) pa_nil))))
  pss_nil)
  (pss_one (ps_ret (pv 3))))))), go _ (?_ : wS _ _ ⟨[some (.val (rdD x fo)), some (.val (.str t)), some (.val (.int j)), none], none, 0⟩ _)⟩
  try dsimp only [L2.cxOf]
  cases x with
  | text u => cases ht
  | place p v' =>
    obtain rfl := hv p v' rfl
    rw [show rdD (.place p v') fo = .tup [.str (cs "place"), .way v'] from by rw [rdD]]
    repeat' walk_at "w"
    refine ⟨(t, j), ⟨hl, hj⟩, rfl, fun d hd => ?_, fun _ => id⟩
    rw [hd]
    show wS _ _ _ _
    have e : rdN (.place p v') fo (t.drop j) = (readW v' (t.drop j)).map fun q => (.val q.1, q.2) := by rw [rdN]
    unfold redD
    dsimp only
    cases hrd : readW v' (t.drop j) with
    | none =>
      repeat' walk_at "w"
      refine wR_isN .non ?_
      repeat' walk_at "w"
      refine wS_raise ?_
      repeat' walk_at "w"
      show rdN (.place p v') fo (t.drop j) = none ∧ inT t (j : Int)
      exact ⟨by rw [e, hrd]; rfl, by omega, by omega⟩
    | some q =>
      repeat' walk_at "w"
      refine wR_isX ?_
      repeat' walk_at "w"
      show ∃ f r, rdN (.place p v') fo (t.drop j) = some (f, r) ∧ _ = _
      exact ⟨.val q.1, q.2, by rw [e, hrd]; rfl, by rw [fiD]; rfl⟩
  | loop nm p b btw =>
    have hD : ∃ l, rdD (.loop nm p b btw) fo = .tup (.str (cs "loop") :: l) := ⟨_, by rw [rdD]⟩
    obtain ⟨l, hD⟩ := hD
    rw [hD]
    repeat' walk_at "w"
    refine ⟨(.loop nm p b btw, fo, t, j), ⟨⟨⟨hg, hnv, hd, ht⟩, hl, hj⟩, rfl⟩, by rw [← hD]; rfl, fun d hd => ?_, fun m hm => hm⟩
    repeat' walk_at "w"
    exact hd
  | choice p y m =>
    have hD : ∃ l, rdD (.choice p y m) fo = .tup (.str (cs "choice") :: l) := ⟨_, by rw [rdD]⟩
    obtain ⟨l, hD⟩ := hD
    rw [hD]
    repeat' walk_at "w"
    refine ⟨(.choice p y m, fo, t, j), ⟨⟨⟨hg, hnv, hd, ht⟩, hl, hj⟩, rfl⟩, by rw [← hD]; rfl, fun d hd => ?_, fun m hm => hm⟩
    repeat' walk_at "w"
    exact hd
theorem ok_choice_read {n n0 : Nat} (fx : Fx K mg wc nf) (hnf : NfI P w K mg base nf n0) (hk : n0 + 1 ≤ k) (F : FnP K "choice_read" "choice_read" s_choice_read f fd) (Gn : Fn P w K mg base "nodes_read" ["nodes", "text", "at"] k (spA K wc nf (cNr n))) :
    FnOk P w K mg base (L2.CX P w) (k + 1) f fd ["node", "text", "at"] (spA K wc nf (cHr (n + 1))) := by
  refine F.ok sc_choice_read (spA_len fun a _ => rfl) fun cdv A outer s H vs Q E hr h => ?_
  obtain ⟨⟨x, fo, t, j⟩, pre, go⟩ := pure_A (N := N_choice_read) (fun a _ => by simp [cHr, cNd]) h
  obtain ⟨⟨⟨hg, hnv, hd, ht⟩, hl, hj⟩, hx⟩ : ((gdN x ∧ nvN x ∧ dpN x < n + 1 ∧ isText x = false) ∧ t.length ≤ 16000000 ∧ j ≤ t.length) ∧ isChoice x = true := pre
  obtain ⟨p, y, m, rfl⟩ : ∃ p y m, x = .choice p y m := by cases x <;> first | exact ⟨_, _, _, rfl⟩ | cases hx
  rw [gdN] at hg; rw [nvN] at hnv; rw [dpN] at hd
  have e : rdN (.choice p y m) fo (t.drop j) = if here (t.drop j) (sideB y fo).1 (sideB y fo).2 then (rdL y fo (t.drop j)).map fun q => (.side true q.1, q.2)
    else if here (t.drop j) (sideB m fo).1 (sideB m fo).2 then (rdL m fo (t.drop j)).map fun q => (.side false q.1, q.2) else none := by rw [rdN]
  refine ⟨_, (pss_cons (ps_for (passes_of rfl) (by rfl) (pi_list (pe_ix ix_tup (pv 0) pe_int (fun _ _ => rfl))) (pg_tup (by rfl) (pgs_cons (pg_name (i := 3) sc_choice_read.nd rfl (Or.inl rfl)) (pgs_cons (pg_name (i := 4) sc_choice_read.nd rfl (Or.inl rfl)) (pgs_cons (pg_name (i := 5) sc_choice_read.nd rfl (Or.inl rfl)) pgs_nil))))
  (pss_one (ps_if (PW.pt (pw_or (PW.pt (pw_and (pt_cmpR op_lt (pv 2) (pe_callB call_len_str (by rfl) fx.b_len bb_len (pa_cons (pv 1) pa_nil)) (nomark _)) (pw_and1 (pt_cmpR op_in_sign (pe_ix ix_str (pv 1) (pv 2) (fun _ _ => rfl)) (pe_ix ix_tup (pv 4) pe_int (fun _ _ => rfl)) rfl)))) (pw_or1 (PW.pt (pw_and (pt_cmpR op_eq (pv 2) (pe_callB call_len_str (by rfl) fx.b_len bb_len (pa_cons (pv 1) pa_nil)) (nomark _)) (pw_and1 (pt_val (pe_ix ix_tup (pv 4) pe_int (fun _ _ => rfl)))))))))
  (pss_cons (ps_asg (pe_fn Gn hr (by omega) rfl (passes_call (takes_of rfl rfl rfl rfl) (fun _ _ _ _ h => h)) (pa_cons (pv 5) (pa_cons (pv 1) (pa_cons (pv 2) pa_nil)))) (pg_tup (by rfl) (pgs_cons (pg_name (i := 6) sc_choice_read.nd rfl (Or.inl rfl)) (pgs_cons (pg_name (i := 7) sc_choice_read.nd rfl (Or.inl rfl)) pgs_nil))))
  (pss_one (ps_ret (pe_tup (pa_cons (pe_tup (pa_cons (pv 3) (pa_cons (pv 6) pa_nil))) (pa_cons (pv 7) pa_nil))))))
  pss_nil)))
  (pss_one (ps_raise (by rfl) (takes_of rfl rfl rfl rfl) (nofill_mk fx hnf hr (by omega) (by rfl) (pa_cons (pv 2) pa_nil))))), go _ (?_ : wS _ _ ⟨[some (.val (rdD (.choice p y m) fo)), some (.val (.str t)), some (.val (.int j)), none, none, none, none, none], none, 0⟩ _)⟩
  rw [show rdD (.choice p y m) fo = .tup [.str (cs "choice"), .lst [.tup [.bl true, foD (sideB y fo), .lst (rdDs y fo)], .tup [.bl false, foD (sideB m fo), .lst (rdDs m fo)]]] from by rw [rdD]]
  try dsimp only [L2.cxOf]
  generalize hD : D.tup [.str (cs "choice"), .lst [.tup [.bl true, foD (sideB y fo), .lst (rdDs y fo)], .tup [.bl false, foD (sideB m fo), .lst (rdDs m fo)]]] = dd
  repeat' walk_at "w"
  rw [← hD]
  repeat' walk_at "w"
  rw [hD]
  refine ⟨fun i δ => ∃ o1 o2 o3 o4 o5, (1 ≤ i → here (t.drop j) (sideB y fo).1 (sideB y fo).2 = false) ∧ (2 ≤ i → here (t.drop j) (sideB m fo).1 (sideB m fo).2 = false) ∧ δ = ⟨[some (.val dd), some (.val (.str t)), some (.val (.int j)), o1, o2, o3, o4, o5], none, 0⟩,
    ⟨_, _, _, _, _, by omega, by omega, rfl⟩, ?_, ?_⟩
  · rintro i d δ hdd ⟨o1, o2, o3, o4, o5, hy, hm, rfl⟩
    obtain ⟨b, z, hz, hi, hgz, hnz, hdz⟩ : ∃ b z, d = .tup [.bl b, foD (sideB z fo), .lst (rdDs z fo)] ∧ ((i = 0 ∧ b = true ∧ z = y) ∨ (i = 1 ∧ b = false ∧ z = m)) ∧ gdL z ∧ nvL z ∧ dpL z < n := by
      cases i with
      | zero => simp at hdd; exact ⟨true, y, hdd.symm, .inl ⟨rfl, rfl, rfl⟩, hg.1, hnv.1, by omega⟩
      | succ i =>
        cases i with
        | zero => simp at hdd; exact ⟨false, m, hdd.symm, .inr ⟨rfl, rfl, rfl⟩, hg.2, hnv.2, by omega⟩
        | succ i => simp at hdd
    subst hz
    refine wG_tup (is := [3, 4, 5]) rfl rfl ?_
    dsimp only [puts]
    refine wS_if (wT_res (here (t.drop j) (sideB z fo).1 (sideB z fo).2) ?_ ?_)
    · by_cases hjl : j < t.length
      · obtain ⟨c, hc⟩ : ∃ c, t[j]? = some c := ⟨_, List.getElem?_eq_getElem hjl⟩
        rw [here_cons hc]
        repeat' walk_at "w"
        · omega
        rw [decide_eq_true (show (j : Int) < (t.length : Int) by omega)]
        repeat' walk_at "w"
        refine wR_ixS (by omega) rfl hc ?_
        repeat' walk_at "w"
        refine ite_b (fun hb => ⟨hb.symm, rfl⟩) fun hb => ?_
        repeat' walk_at "w"
        · omega
        rw [decide_eq_false (show ¬ (j : Int) = (t.length : Int) by omega)]
        repeat' walk_at "w"
        exact ⟨hb.symm, rfl⟩
      · rw [here_end (by omega)]
        repeat' walk_at "w"
        · omega
        rw [decide_eq_false (show ¬ (j : Int) < (t.length : Int) by omega)]
        repeat' walk_at "w"
        · omega
        rw [decide_eq_true (show (j : Int) = (t.length : Int) by omega)]
        repeat' walk_at "w"
        exact ⟨rfl, rfl⟩
    · refine ite_b (fun hb => ?_) fun hb => ?_
      · repeat' walk_at "w"
        refine ⟨(z, fo, t, j), ⟨⟨hgz, hnz, hdz⟩, hl, hj⟩, rfl, fun d hd => ?_, fun q hq => ?_⟩
        · obtain ⟨fs, r, hr, rfl⟩ : ∃ fs r, rdL z fo (t.drop j) = some (fs, r) ∧ d = .tup [.lst (fiL fs), posD t r] := hd
          refine wG_tup (is := [6, 7]) rfl rfl ?_
          dsimp only [puts]
          repeat' walk_at "w"
          refine ⟨by simp, ?_⟩
          repeat' walk_at "w"
          refine ⟨by simp, ?_⟩
          show ∃ f r, rdN (.choice p y m) fo (t.drop j) = some (f, r) ∧ _ = _
          rcases hi with ⟨rfl, rfl, rfl⟩ | ⟨rfl, rfl, rfl⟩
          · exact ⟨.side true fs, r, by rw [e, if_pos hb, hr]; rfl, by rw [fiD]⟩
          · exact ⟨.side false fs, r, by rw [e, hy (by omega), if_neg (by simp), if_pos hb, hr]; rfl, by rw [fiD]⟩
        · obtain ⟨hq1, hq2⟩ : rdL z fo (t.drop j) = none ∧ inT t q := hq
          refine ⟨?_, hq2⟩
          show rdN (.choice p y m) fo (t.drop j) = none
          rcases hi with ⟨rfl, rfl, rfl⟩ | ⟨rfl, rfl, rfl⟩
          · rw [e, if_pos hb, hq1]; rfl
          · rw [e, hy (by omega), if_neg (by simp), if_pos hb, hq1]; rfl
      · repeat' walk_at "w"
        rcases hi with ⟨rfl, rfl, rfl⟩ | ⟨rfl, rfl, rfl⟩
        · exact ⟨_, _, _, _, _, fun _ => hb, by omega, rfl⟩
        · exact ⟨_, _, _, _, _, fun _ => hy (by omega), fun _ => hb, rfl⟩
  · rintro δ ⟨o1, o2, o3, o4, o5, hy, hm, rfl⟩
    repeat' walk_at "w"
    refine wS_raise ?_
    repeat' walk_at "w"
    show rdN (.choice p y m) fo (t.drop j) = none ∧ inT t (j : Int)
    exact ⟨by rw [e, hy (by simp), hm (by simp)]; rfl, by omega, by omega⟩
end

/-! W13: loop_read, read_back. -/
section
variable {P : Program} {w : World} {K : PySem.W.Frag} {mg : Str → Option Value} {base : Heap} {f : Addr} {fd : FuncData} {wc : Way → Addr} {nf : Addr} {k : Nat}
theorem ok_loop_read {n : Nat} (fx : Fx K mg wc nf) (F : FnP K "loop_read" "loop_read" s_loop_read f fd) (Gt : Fn P w K mg base "text_read" ["wanted", "text", "at"] k (spA K wc nf cTr)) (Gn : Fn P w K mg base "nodes_read" ["nodes", "text", "at"] k (spA K wc nf (cNr n))) :
    FnOk P w K mg base (L2.CX P w) (k + 1) f fd ["node", "text", "at"] (spA K wc nf (cLr (n + 1))) := by
  refine F.ok sc_loop_read (spA_len fun a _ => rfl) fun cdv A outer s H vs Q E hr h => ?_
  obtain ⟨⟨x, fo, t, j0⟩, pre, go⟩ := pure_A (N := N_loop_read) (fun a _ => by simp [cLr, cNd]) h
  obtain ⟨⟨⟨hg, hnv, hd, ht⟩, hl, hj0⟩, hx⟩ : ((gdN x ∧ nvN x ∧ dpN x < n + 1 ∧ isText x = false) ∧ t.length ≤ 16000000 ∧ j0 ≤ t.length) ∧ isLoop x = true := pre
  obtain ⟨nm, p, b, btw, rfl⟩ : ∃ nm p b btw, x = .loop nm p b btw := by cases x <;> first | exact ⟨_, _, _, _, rfl⟩ | cases hx
  rw [gdN] at hg; rw [nvN] at hnv; rw [dpN] at hd
  generalize hbd : (fun s => rdL b (withinL b btw fo) s) = body
  have hbd' : ∀ s, rdL b (withinL b btw fo) s = body s := fun s => by rw [← hbd]
  have e : rdN (.loop nm p b btw) fo (t.drop j0) = if here (t.drop j0) (bgL b []).1 false then (match body (t.drop j0) with
    | none => none
    | some (f, s2) => (rdLoop body btw (againB b btw) (s2.length + 1) s2).map fun q => (.rounds (f :: q.1), q.2)) else some (.rounds [], t.drop j0) := by
    rw [rdN, hbd]
    rw [← hbd' (t.drop j0)] <;> rfl
  have goes : ∀ {s r : T} {fs : List Fill}, rdL b (withinL b btw fo) s = some (fs, r) → r.length < s.length := fun h => rdL_goes (gdL_va b hg.1) hnv.1 h
  refine ⟨_, (pss_cons (ps_asg (pv 0) (pg_tup (by rfl) (pgs_cons (pg_name (i := 3) sc_loop_read.nd rfl (Or.inl rfl)) (pgs_cons (pg_name (i := 4) sc_loop_read.nd rfl (Or.inl rfl)) (pgs_cons (pg_name (i := 5) sc_loop_read.nd rfl (Or.inl rfl)) (pgs_cons (pg_name (i := 6) sc_loop_read.nd rfl (Or.inl rfl)) (pgs_cons (pg_name (i := 7) sc_loop_read.nd rfl (Or.inl rfl)) pgs_nil)))))))
  (pss_cons (ps_set (i := 8) sc_loop_read.nd rfl (Or.inl rfl) (pe_lst pa_nil))
  (pss_cons (ps_while (passes_of rfl) (PW.pt (pw_and (pt_cmpR op_lt (pv 2) (pe_callB call_len_str (by rfl) fx.b_len bb_len (pa_cons (pv 1) pa_nil)) (nomark _)) (pw_and1 (pt_cmpR op_in_sign (pe_ix ix_str (pv 1) (pv 2) (fun _ _ => rfl)) (pe_ifExp (pt_cmpR op_gt (pe_callB call_len_seq (by rfl) fx.b_len bb_len (pa_cons (pv 8) pa_nil)) pe_int (nomark _)) (pv 5) (pv 4)) rfl))))
  (pss_cons (ps_if (pt_cmpR op_gt (pe_callB call_len_seq (by rfl) fx.b_len bb_len (pa_cons (pv 8) pa_nil)) pe_int (nomark _))
  (pss_one (ps_set (i := 2) sc_loop_read.nd rfl (Or.inl rfl) (pe_fn Gt hr (by omega) rfl (passes_call (takes_of rfl rfl rfl rfl) (fun _ _ _ _ h => h)) (pa_cons (pv 7) (pa_cons (pv 1) (pa_cons (pv 2) pa_nil))))))
  pss_nil)
  (pss_cons (ps_asg (pe_fn Gn hr (by omega) rfl (passes_call (takes_of rfl rfl rfl rfl) (fun _ _ _ _ h => h)) (pa_cons (pv 6) (pa_cons (pv 1) (pa_cons (pv 2) pa_nil)))) (pg_tup (by rfl) (pgs_cons (pg_name (i := 9) sc_loop_read.nd rfl (Or.inl rfl)) (pgs_cons (pg_name (i := 2) sc_loop_read.nd rfl (Or.inl rfl)) pgs_nil))))
  (pss_one (ps_expr (pe_bm PySem.F.plainAttrs_list PySem.F.slot_list_append PySem.F.type_list_append mt_append (pv 8) (pa_cons (pv 9) pa_nil)))))))
  (pss_one (ps_ret (pe_tup (pa_cons (pv 8) (pa_cons (pv 2) pa_nil)))))))), go _ (?_ : wS _ _ ⟨[some (.val (rdD (.loop nm p b btw) fo)), some (.val (.str t)), some (.val (.int j0)), none, none, none, none, none, none, none], none, 0⟩ _)⟩
  rw [show rdD (.loop nm p b btw) fo = .tup [.str (cs "loop"), .str (bgL b []).1, .str (againB b btw), .lst (rdDs b (withinL b btw fo)), .str btw] from by rw [rdD]]
  try dsimp only [L2.cxOf]
  repeat' walk_at "w"
  refine wG_tup (is := [3, 4, 5, 6, 7]) rfl rfl ?_
  dsimp only [puts]
  generalize hD : D.tup [.str (cs "loop"), .str (bgL b []).1, .str (againB b btw), .lst (rdDs b (withinL b btw fo)), .str btw] = dd
  refine wS_seq (wS_setOwn (wN_lst (wA_nil ⟨by simp, ?_⟩)))
  refine wS_seq (wS_while ⟨fun m δ => ∃ (j : Nat) (rs : List (List Fill)) (kk : Nat) (o : Option Cell), j ≤ t.length ∧ j0 ≤ j ∧ rs.length ≤ j - j0 ∧ m = t.length - j ∧ t.length - j < kk ∧ (rs = [] → j = j0) ∧
      (rs ≠ [] → rdN (.loop nm p b btw) fo (t.drop j0) = (rdLoop body btw (againB b btw) kk (t.drop j)).map fun q => (.rounds (rs ++ q.1), q.2)) ∧
      δ = ⟨[some (.val dd), some (.val (.str t)), some (.val (.int j)), some (.val (.str (cs "loop"))), some (.val (.str (bgL b []).1)), some (.val (.str (againB b btw))), some (.val (.lst (rdDs b (withinL b btw fo)))), some (.val (.str btw)), some (.own (fiR rs)), o], none, 0⟩,
    ⟨_, j0, [], t.length + 1, none, hj0, by omega, by simp, rfl, by omega, fun _ => rfl, fun z => absurd rfl z, by rw [fiR]; rfl⟩, ?_⟩)
  rintro m δ ⟨j, rs, kk, o, hj, hj0j, hrs, rfl, hkk, hr0, hr1, rfl⟩
  have hrl : (fiR rs).length = rs.length := by rw [fiR_map, List.length_map]
  have hpos : (decide ((0 : Int) < ((fiR rs).length : Int))) = !decide (rs = []) := by
    rw [hrl]
    cases rs with
    | nil => rfl
    | cons a l => simp
  refine wT_borrow (i := 8) rfl (wT_res (here (t.drop j) (if rs = [] then (bgL b []).1 else againB b btw) false) ?_ ?_)
  · by_cases hjl : j < t.length
    · obtain ⟨c, hc⟩ : ∃ c, t[j]? = some c := ⟨_, List.getElem?_eq_getElem hjl⟩
      rw [here_cons hc]
      repeat' walk_at "w"
      · omega
      rw [decide_eq_true (show (j : Int) < (t.length : Int) by omega)]
      repeat' walk_at "w"
      refine wR_ixS (by omega) rfl hc ?_
      repeat' walk_at "w"
      rw [hpos]
      by_cases hz : rs = []
      · rw [if_pos hz, decide_eq_true hz]
        repeat' walk_at "w"
        exact ⟨rfl, rfl⟩
      · rw [if_neg hz, decide_eq_false hz]
        repeat' walk_at "w"
        exact ⟨rfl, rfl⟩
    · rw [here_end (by omega)]
      repeat' walk_at "w"
      · omega
      rw [decide_eq_false (show ¬ (j : Int) < (t.length : Int) by omega)]
      repeat' walk_at "w"
      exact ⟨rfl, rfl⟩
  · refine ite_b (fun hb => ?_) fun hb => ?_
    · refine wS_cut (I := fun δ => ∃ j' : Nat, j ≤ j' ∧ j' ≤ t.length ∧ (rs = [] → j' = j) ∧ (rs ≠ [] → stripP btw (t.drop j) = some (t.drop j')) ∧ δ = ⟨[some (.val dd), some (.val (.str t)), some (.val (.int j')), some (.val (.str (cs "loop"))), some (.val (.str (bgL b []).1)), some (.val (.str (againB b btw))), some (.val (.lst (rdDs b (withinL b btw fo)))), some (.val (.str btw)), some (.own (fiR rs)), o], none, 0⟩) ?_ ?_
      · refine wS_if (wT_borrow (i := 8) rfl (wT_res (!decide (rs = [])) ?_ ?_))
        · repeat' walk_at "w"
          exact ⟨hpos, rfl⟩
        · by_cases hz : rs = []
          · rw [decide_eq_true hz]
            repeat' walk_at "w"
            exact ⟨j, Nat.le_refl _, hj, fun _ => rfl, fun z => absurd hz z, rfl⟩
          · rw [decide_eq_false hz]
            obtain ⟨k', rfl⟩ : ∃ k', kk = k' + 1 := ⟨kk - 1, by omega⟩
            rw [if_neg hz] at hb
            repeat' walk_at "w"
            refine ⟨(btw, t, j), ⟨hl, hj⟩, rfl, fun d hd => ?_, fun q hq => ?_⟩
            · obtain ⟨r, hr, rfl⟩ : ∃ r, stripP btw (t.drop j) = some r ∧ d = posD t r := hd
              obtain ⟨a1, a2, a3, a4⟩ := rest_at (stripP_app hr) hj
              repeat' walk_at "w"
              exact ⟨t.length - r.length, a1, a2, fun z => absurd z hz, fun _ => by rw [hr, a3], rfl⟩
            · obtain ⟨hq1, hq2⟩ : stripP btw (t.drop j) = none ∧ inT t q := hq
              refine ⟨?_, hq2⟩
              show rdN (.loop nm p b btw) fo (t.drop j0) = none
              rw [hr1 hz, rdLoop_more hb, hq1]; rfl
      · rintro δ ⟨j', hjj, hj', hs0, hs1, rfl⟩
        repeat' walk_at "w"
        refine ⟨(b, withinL b btw fo, t, j'), ⟨⟨hg.1, hnv.2, by show dpL b < n; omega⟩, hl, hj'⟩, rfl, fun d hd => ?_, fun q hq => ?_⟩
        · obtain ⟨fs, r, hr, rfl⟩ : ∃ fs r, rdL b (withinL b btw fo) (t.drop j') = some (fs, r) ∧ d = .tup [.lst (fiL fs), posD t r] := hd
          obtain ⟨a1, a2, a3, a4⟩ := rest_at (rdL_sound b _ _ _ _ hr).2 hj'
          have hlt := goes hr
          rw [List.length_drop] at hlt
          refine wG_tup (is := [9, 2]) rfl rfl ?_
          dsimp only [puts]
          repeat' walk_at "w"
          refine ⟨by rw [hrl]; omega, ?_⟩
          have hrs' : (rs ++ [fs]).length = rs.length + 1 := by simp
          have hne : rs ++ [fs] ≠ [] := by simp
          have hlen2 : t.length - (t.length - r.length) = r.length := by omega
          have hfi : fiR rs ++ [.lst (fiL fs)] = fiR (rs ++ [fs]) := by rw [fiR_app]; rfl
          by_cases hz : rs = []
          · rw [if_pos hz] at hb
            have hj0' : j = j0 := hr0 hz
            have hjj' : j' = j := hs0 hz
            subst hj0' hjj'
            refine ⟨r.length, by omega, t.length - r.length, rs ++ [fs], r.length + 1, some (.val (.lst (fiL fs))), a2, by omega, by omega, by omega, by omega, fun z => absurd z hne, fun _ => ?_, by rw [← hfi]; rfl⟩
            rw [e, if_pos hb, ← hbd', hr, a3, hz]; rfl
          · rw [if_neg hz] at hb
            obtain ⟨k', rfl⟩ : ∃ k', kk = k' + 1 := ⟨kk - 1, by omega⟩
            refine ⟨r.length, by omega, t.length - r.length, rs ++ [fs], k', some (.val (.lst (fiL fs))), a2, by omega, by omega, by omega, by omega, fun z => absurd z hne, fun _ => ?_, by rw [← hfi]; rfl⟩
            rw [hr1 hz, rdLoop_more hb, hs1 hz]
            simp only [← hbd', hr, a3, Option.map_map, Function.comp_def, List.append_assoc, List.singleton_append]
        · obtain ⟨hq1, hq2⟩ : rdL b (withinL b btw fo) (t.drop j') = none ∧ inT t q := hq
          refine ⟨?_, hq2⟩
          show rdN (.loop nm p b btw) fo (t.drop j0) = none
          by_cases hz : rs = []
          · rw [if_pos hz] at hb
            have hj0' : j = j0 := hr0 hz
            have hjj' : j' = j := hs0 hz
            subst hj0' hjj'
            rw [e, if_pos hb, ← hbd', hq1]
          · rw [if_neg hz] at hb
            obtain ⟨k', rfl⟩ : ∃ k', kk = k' + 1 := ⟨kk - 1, by omega⟩
            rw [hr1 hz, rdLoop_more hb, hs1 hz]
            simp only [← hbd', hq1]; rfl
    · refine wS_freeze (i := 8) rfl ?_
      repeat' walk_at "w"
      refine ⟨by simp, ?_⟩
      show ∃ f r, rdN (.loop nm p b btw) fo (t.drop j0) = some (f, r) ∧ _ = _
      refine ⟨.rounds rs, t.drop j, ?_, by rw [fiD, posD_drop hj]⟩
      by_cases hz : rs = []
      · rw [if_pos hz] at hb
        rw [e, ← hr0 hz, if_neg (by rw [hb]; simp), hz]
      · rw [if_neg hz] at hb
        obtain ⟨k', rfl⟩ : ∃ k', kk = k' + 1 := ⟨kk - 1, by omega⟩
        rw [hr1 hz, rdLoop_zero hb]; simp
theorem ok_read_back {n : Nat} (fx : Fx K mg wc nf) (hnf : True) (F : FnP K "read_back" "read_back" s_read_back f fd) (Gi : Fn P w K mg base "is_text" ["thing", "most"] k (spA K wc nf cIsText)) (Gn : Fn P w K mg base "nodes_read" ["nodes", "text", "at"] k (spA K wc nf (cNr n))) (Gr : Fn P w K mg base "readied" ["nodes", "follow"] k (spA K wc nf (cRd n)))
    {n0 : Nat} (hnf : NfI P w K mg base nf n0) (hk : n0 + 1 ≤ k) : FnOk P w K mg base (L2.CX P w) (k + 1) f fd ["form", "text"] (spA K wc nf (cRB n)) := by
  refine F.ok sc_read_back (spA_len fun a _ => rfl) fun cdv A outer s H vs Q E hr h => ?_
  obtain ⟨⟨ns, t⟩, pre, go⟩ := pure_A (N := N_read_back) (fun a _ => by simp [cRB]) h
  obtain ⟨⟨hg, hnv, hd⟩, hs, hl⟩ : (gdL ns ∧ nvL ns ∧ dpL ns < n) ∧ allSG t = true ∧ t.length ≤ 16000000 := pre
  obtain ⟨aE, hAT, sAT⟩ := fx.gAT_END
  refine ⟨_, (pss_cons (ps_if (PW.pt (pw_or (pt_not (pt_val (pe_callB call_isi (by rfl) fx.b_isinstance bb_isinstance (pa_cons (pv 1) (pa_cons (pe_bltn (v := .ty "str") rfl fx.b_str bb_str rfl) pa_nil))))) (pw_or1 (pt_not (pt_val (pe_fn Gi hr (by omega) rfl passL (pa_cons (pv 1) (pa_cons (pe_callB call_len_str (by rfl) fx.b_len bb_len (pa_cons (pv 1) pa_nil)) pa_nil))))))))
  (pss_one ps_never)
  pss_nil)
  (pss_cons (ps_asg (pe_fn Gn hr (by omega) rfl (passes_call (takes_of rfl rfl rfl rfl) (fun _ _ _ _ h => h)) (pa_cons (pe_fn Gr hr (by omega) rfl passL (pa_cons (pv 0) (pa_cons (pe_glob (v := .ref aE) rfl hAT rfl) pa_nil))) (pa_cons (pv 1) (pa_cons pe_int pa_nil)))) (pg_tup (by rfl) (pgs_cons (pg_name (i := 2) sc_read_back.nd rfl (Or.inl rfl)) (pgs_cons (pg_name (i := 3) sc_read_back.nd rfl (Or.inl rfl)) pgs_nil))))
  (pss_cons (ps_if (pt_cmpR op_lt (pv 3) (pe_callB call_len_str (by rfl) fx.b_len bb_len (pa_cons (pv 1) pa_nil)) (nomark _))
  (pss_one (ps_raise (by rfl) (takes_of rfl rfl rfl rfl) (nofill_mk fx hnf hr (by omega) (by rfl) (pa_cons (pv 3) pa_nil))))
  pss_nil)
  (pss_one (ps_ret (pv 2)))))), go _ (?_ : wS _ _ ⟨[some (.val (FD ns)), some (.val (.str t)), none, none], none, 0⟩ _)⟩
  try dsimp only [L2.cxOf]
  repeat' walk_at "w"
  · omega
  refine ⟨(t, t.length), by show t.length ≤ 16777216; omega, rfl, fun d hd => ?_, fun _ => id⟩
  have hd : d = .bl (decide ((t.length : Int) ≤ (t.length : Int)) && allSG t) := hd
  rw [hd, hs, decide_eq_true (Int.le_refl _)]
  refine ⟨_, rfl, ?_⟩
  repeat' walk_at "w"
  refine wE_ref (l := [.str [], .bl true]) sAT (fun P H => .cons (by unfold Rep; rfl) (.cons (by unfold Rep; rfl) .nil)) ?_
  repeat' walk_at "w"
  refine ⟨(ns, ([], true)), ⟨hg, by assumption⟩, rfl, fun d hd => ?_, fun _ => id⟩
  rw [hd]
  repeat' walk_at "w"
  refine ⟨(ns, ([], true), t, 0), ⟨⟨hg, hnv, by assumption⟩, hl, by simp⟩, rfl, fun d hd => ?_, fun q hq => ?_⟩
  · obtain ⟨fs, r, hr, rfl⟩ : ∃ fs r, rdL ns ([], true) (t.drop 0) = some (fs, r) ∧ d = .tup [.lst (fiL fs), posD t r] := hd
    rw [List.drop_zero] at hr
    have hrl : r.length ≤ t.length := by
      have := congrArg List.length (rdL_sound ns _ _ _ _ hr).2
      rw [List.length_append] at this; omega
    refine wG_tup (is := [2, 3]) rfl rfl ?_
    dsimp only [puts]
    unfold posD
    repeat' walk_at "w"
    · omega
    refine ite_b (fun hb => ?_) fun hb => ?_
    · have hb : t.length - r.length < t.length := by simpa using hb
      repeat' walk_at "w"
      refine wS_raise ?_
      repeat' walk_at "w"
      show readBack ns t = none ∧ inT t ((t.length - r.length : Nat) : Int)
      refine ⟨?_, by omega, by omega⟩
      unfold readBack
      rw [hr]
      cases r with
      | nil => simp at hb
      | cons c r => rfl
    · have hb : ¬ t.length - r.length < t.length := by simpa using hb
      have hnil : t = [] ∨ r = [] := by
        cases r with
        | nil => exact .inr rfl
        | cons c r =>
          left
          simp at hb hrl
          exact List.eq_nil_of_length_eq_zero (by omega)
      have hr0 : r = [] := by
        rcases hnil with h | h
        · rw [h] at hrl; exact List.eq_nil_of_length_eq_zero (by simpa using hrl)
        · exact h
      repeat' walk_at "w"
      show ∃ fs', readBack ns t = some fs' ∧ _ = _
      exact ⟨fs, by unfold readBack; rw [hr, hr0], rfl⟩
  · obtain ⟨hq1, hq2⟩ : rdL ns ([], true) (t.drop 0) = none ∧ inT t q := hq
    rw [List.drop_zero] at hq1
    refine ⟨?_, hq2⟩
    show readBack ns t = none
    unfold readBack; rw [hq1]
end

/-! W14: node_spelt, spelt. -/
abbrev s_node_spelt : Stmt := top 55
abbrev N_node_spelt : List Str := ["node", "one", "own"]
theorem sc_node_spelt : FnScope N_node_spelt ["node", "one"] (defScope s_node_spelt) := ⟨rfl, rfl, rfl, by decide +kernel, rfl, by decide +kernel, by decide +kernel⟩
abbrev s_spelt : Stmt := top 56
abbrev N_spelt : List Str := ["form", "fill", "found", "at", "node"]
theorem sc_spelt : FnScope N_spelt ["form", "fill"] (defScope s_spelt) := ⟨rfl, rfl, rfl, by decide +kernel, rfl, by decide +kernel, by decide +kernel⟩
def cSn (n : Nat) : CtA (Node × Fill) := { args := fun a => [ndN a.1, fiD a.2], pre := fun a => (gdN a.1 ∧ nvN a.1 ∧ dpN a.1 < n ∧ isText a.1 = false) ∧ okN a.1 a.2 ∧ (spN a.1 a.2).length ≤ 16000000, post := fun a d => d = .str (spN a.1 a.2) }
def cSp (n : Nat) : CtA (List Node × List Fill) := { args := fun a => [FD a.1, .lst (fiL a.2)], pre := fun a => (gdL a.1 ∧ nvL a.1 ∧ dpL a.1 < n) ∧ okL a.1 a.2 ∧ (spL a.1 a.2).length ≤ 16000000, post := fun a d => d = .str (spL a.1 a.2) }
theorem join_nil : ∀ l : List T, join [] l = l.flatten
  | [] => rfl
  | [a] => by simp [join]
  | a :: b :: r => by
    show a ++ ([] ++ join [] (b :: r)) = _
    rw [join_nil (b :: r)]; rfl
theorem join_ge (btw : T) : ∀ l : List T, (l.map List.length).sum + l.length * btw.length ≤ (join btw l).length + btw.length
  | [] => by simp [join]
  | [a] => by simp [join]
  | a :: b :: r => by
    have := join_ge btw (b :: r)
    show a.length + ((b :: r).map List.length).sum + ((b :: r).length + 1) * btw.length ≤ (a ++ (btw ++ join btw (b :: r))).length + btw.length
    rw [List.length_append, List.length_append, Nat.add_mul, Nat.one_mul]
    omega
theorem join_mem (btw : T) : ∀ (l : List T) (t : T), t ∈ l → t.length ≤ (join btw l).length
  | [], t, h => by cases h
  | [a], t, h => by rw [List.mem_singleton.mp h]; exact Nat.le_refl _
  | a :: b :: r, t, h => by
    show _ ≤ (a ++ (btw ++ join btw (b :: r))).length
    rw [List.length_append, List.length_append]
    rcases List.mem_cons.mp h with e | h
    · rw [e]; omega
    · have := join_mem btw (b :: r) t h; omega
theorem nvL_mem : ∀ {l : List Node}, nvL l → ∀ y ∈ l, nvN y
  | [], _, y, hy => by cases hy
  | a :: l, h, y, hy => by
    rw [nvL] at h
    rcases List.mem_cons.mp hy with e | hy
    · rw [e]; exact h.1
    · exact nvL_mem h.2 y hy
theorem spL_node {x : Node} {ns : List Node} {f : Fill} {fs : List Fill} (h : isText x = false) : spL (x :: ns) (f :: fs) = spN x f ++ spL ns fs := by
  cases x with
  | text u => cases h
  | place p v => exact spL_place
  | loop nm p b btw => exact spL_loop
  | choice p y m => exact spL_choice
theorem okL_node {x : Node} {ns : List Node} {fs : List Fill} (h : isText x = false) (o : okL (x :: ns) fs) : ∃ f r, fs = f :: r ∧ okN x f ∧ okL ns r := by
  cases fs with
  | nil =>
    cases x with
    | text u => cases h
    | place p v => exact False.elim o
    | loop nm p b btw => exact False.elim o
    | choice p y m => exact False.elim o
  | cons f r =>
    refine ⟨f, r, rfl, ?_⟩
    cases x with
    | text u => cases h
    | place p v => exact o
    | loop nm p b btw => exact o
    | choice p y m => exact o
section
variable {P : Program} {w : World} {K : PySem.W.Frag} {mg : Str → Option Value} {base : Heap} {f : Addr} {fd : FuncData} {wc : Way → Addr} {nf : Addr} {k : Nat}
theorem ok_node_spelt {n : Nat} (fx : Fx K mg wc nf) (F : FnP K "node_spelt" "node_spelt" s_node_spelt f fd) (cl : ∀ v, Cls K (wc v)) (Gw : Fn P w K mg base "way_of" ["word"] k (spA K wc nf cWayOf)) (Gs : Fn P w K mg base "spelt" ["form", "fill"] k (spA K wc nf (cSp n)))
    (Mc : ∀ v, Me P w K mg base (wc v) "coded" ["self", "value"] k (spA K wc nf (cCoded v))) : FnOk P w K mg base (L2.CX P w) (k + 1) f fd ["node", "one"] (spA K wc nf (cSn (n + 1))) := by
  refine F.ok sc_node_spelt (spA_len fun a _ => rfl) fun cdv A outer s H vs Q E hr h => ?_
  obtain ⟨⟨x, q⟩, pre, go⟩ := pure_A (N := N_node_spelt) (fun a _ => by simp [cSn]) h
  obtain ⟨⟨hg, hnv, hd, ht⟩, ho, hl⟩ : (gdN x ∧ nvN x ∧ dpN x < n + 1 ∧ isText x = false) ∧ okN x q ∧ (spN x q).length ≤ 16000000 := pre
  obtain ⟨v, hv⟩ : ∃ v, ∀ p' v', x = .place p' v' → v' = v := by
    cases x with
    | place p' v' => exact ⟨v', fun _ _ e => by cases e; rfl⟩
    | _ => exact ⟨.plain, fun _ _ e => by cases e⟩
  refine ⟨_, (pss_cons (ps_if (pt_cmpR op_eq (pe_ix ix_tup (pv 0) pe_int (fun _ _ => rfl)) pe_str (nomark _))
  (pss_one (ps_ret (pe_me (cl v) (Mc v) hr (by omega) passL (pe_fn Gw hr (by omega) rfl passL (pa_cons (pe_ix ix_tup (pv 0) pe_int (fun _ _ => rfl)) pa_nil)) (pa_cons (pv 1) pa_nil))))
  pss_nil)
  (pss_cons (ps_if (pt_cmpR op_eq (pe_ix ix_tup (pv 0) pe_int (fun _ _ => rfl)) pe_str (nomark _))
  (pss_one (ps_ret (pe_join (pe_ix ix_tup (pv 0) pe_int (fun _ _ => rfl)) (pe_lc (own := [("own", 2)]) (by rfl) sc_node_spelt.nd (pi_list (pv 1)) (blkOk_by (own := [("own", 2)]) (N := N_node_spelt) (sc := defScope s_node_spelt) (by decide +kernel)) (fun _ _ _ _ _ => (pg_name (i := 2) sc_node_spelt.nd rfl (Or.inl rfl))) (fun _ _ _ _ _ => pts_nil) (fun _ _ _ _ _ => (pe_fn Gs hr (by omega) rfl passL (pa_cons (pe_ix (show IxR _ (rIxT K) from ix_tup) (pv 0) pe_int (fun _ _ => rfl)) (pa_cons (pv 2) pa_nil))))))))
  pss_nil)
  (pss_one (ps_ret (pe_fn Gs hr (by omega) rfl passL (pa_cons (pe_ifExp (pt_val (pe_ix ix_tup (pv 1) pe_int (fun _ _ => rfl))) (pe_ix ix_tup (pv 0) pe_int (fun _ _ => rfl)) (pe_ix ix_tup (pv 0) pe_int (fun _ _ => rfl))) (pa_cons (pe_ix ix_tup (pv 1) pe_int (fun _ _ => rfl)) pa_nil))))))), go _ (?_ : wS _ _ ⟨[some (.val (ndN x)), some (.val (fiD q)), none], none, 0⟩ _)⟩
  try dsimp only [L2.cxOf]
  cases x with
  | text u => cases ht
  | place p v' =>
    obtain rfl := hv p v' rfl
    obtain ⟨z, rfl⟩ : ∃ z, q = .val z := by
      cases q with
      | val z => exact ⟨_, rfl⟩
      | rounds rs => exact False.elim ho
      | side c fs => exact False.elim ho
    rw [okN] at ho
    rw [show ndN (.place p v') = .tup [.str (cs "place"), pthD p, .str (wayS v')] from by rw [ndN], show fiD (.val z) = vlD z from by rw [fiD]]
    repeat' walk_at "w"
    refine ⟨v', trivial, rfl, fun d hd => ?_, fun _ => id⟩
    rw [hd]
    repeat' walk_at "w"
    refine ⟨z, ho, rfl, fun d hd => ?_, fun _ => id⟩
    repeat' walk_at "w"
    have hd : d = .str (marked v' z) := hd
    show d = .str (spN (.place p v') (.val z))
    rw [hd, spN]
  | loop nm p b btw =>
    obtain ⟨rs, rfl⟩ : ∃ rs, q = .rounds rs := by
      cases q with
      | val z => exact False.elim ho
      | rounds rs => exact ⟨_, rfl⟩
      | side c fs => exact False.elim ho
    rw [gdN] at hg; rw [nvN] at hnv; rw [dpN] at hd; rw [okN] at ho
    have esp : spN (.loop nm p b btw) (.rounds rs) = join btw (rs.map fun r => spL b r) := by rw [spN]
    rw [esp] at hl
    have hrn := rounds_le (btw := btw) (gdL_va b hg.1) hnv.1 rs ho
    rw [show ndN (.loop nm p b btw) = .tup [.str (cs "loop"), .str nm, pthD p, FD b, .str btw] from by rw [ndN], show fiD (.rounds rs) = .lst (fiR rs) from by rw [fiD]]
    repeat' walk_at "w"
    refine wE_lcM (gw_name (by simp)) ?_
    repeat' walk_at "w"
    refine ⟨(rs.map fun r => spL b r).map D.str, by rw [fiR_map, List.length_map]; omega, by simp [fiR_map], fun i d hdd => ?_, ?_⟩
    · rw [fiR_map, List.getElem?_map] at hdd
      obtain ⟨r, hr, rfl⟩ := Option.map_eq_some_iff.mp hdd
      have hm := List.mem_of_getElem? hr
      repeat' walk_at "w"
      refine ⟨(b, r), ⟨⟨hg.1, hnv.2, by show dpL b < n; omega⟩, ho r hm, ?_⟩, rfl, fun d hd => ?_, fun _ => id⟩
      · have := join_mem btw (rs.map fun r => spL b r) (spL b r) (List.mem_map.mpr ⟨r, hm, rfl⟩)
        show (spL b r).length ≤ 16000000
        omega
      · rw [hd]
        exact ⟨by simp [hr], rfl⟩
    · refine ⟨_, rfl, ?_, ?_⟩
      · have := join_ge btw (rs.map fun r => spL b r)
        have := hg.2.2
        omega
      · show _ = D.str (spN (.loop nm p b btw) (.rounds rs))
        rw [esp]
  | choice p y m =>
    obtain ⟨c, fs, rfl⟩ : ∃ c fs, q = .side c fs := by
      cases q with
      | val z => exact False.elim ho
      | rounds rs => exact False.elim ho
      | side c fs => exact ⟨_, _, rfl⟩
    rw [gdN] at hg; rw [nvN] at hnv; rw [dpN] at hd; rw [okN] at ho
    have esp : spN (.choice p y m) (.side c fs) = if c then spL y fs else spL m fs := by rw [spN]
    rw [esp] at hl
    rw [show ndN (.choice p y m) = .tup [.str (cs "choice"), pthD p, FD y, FD m] from by rw [ndN], show fiD (.side c fs) = .tup [.bl c, .lst (fiL fs)] from by rw [fiD]]
    repeat' walk_at "w"
    refine ite_b (fun hc => ?_) fun hc => ?_
    · subst hc
      repeat' walk_at "w"
      refine ⟨(y, fs), ⟨⟨hg.1, hnv.1, by show dpL y < n; omega⟩, ho, hl⟩, rfl, fun d hd => ?_, fun _ => id⟩
      repeat' walk_at "w"
      have hd : d = .str (spL y fs) := hd
      show d = .str (spN (.choice p y m) (.side true fs))
      rw [hd, esp]; rfl
    · subst hc
      repeat' walk_at "w"
      refine ⟨(m, fs), ⟨⟨hg.2, hnv.2, by show dpL m < n; omega⟩, ho, hl⟩, rfl, fun d hd => ?_, fun _ => id⟩
      repeat' walk_at "w"
      have hd : d = .str (spL m fs) := hd
      show d = .str (spN (.choice p y m) (.side false fs))
      rw [hd, esp]; rfl
theorem ok_spelt {n : Nat} (fx : Fx K mg wc nf) (F : FnP K "spelt" "spelt" s_spelt f fd) (Gn : Fn P w K mg base "node_spelt" ["node", "one"] k (spA K wc nf (cSn n))) : FnOk P w K mg base (L2.CX P w) (k + 1) f fd ["form", "fill"] (spA K wc nf (cSp n)) := by
  refine F.ok sc_spelt (spA_len fun a _ => rfl) fun cdv A outer s H vs Q E hr h => ?_
  obtain ⟨⟨ns, fs⟩, pre, go⟩ := pure_A (N := N_spelt) (fun a _ => by simp [cSp]) h
  obtain ⟨⟨hg, hnv, hd⟩, ho, hl⟩ : (gdL ns ∧ nvL ns ∧ dpL ns < n) ∧ okL ns fs ∧ (spL ns fs).length ≤ 16000000 := pre
  refine ⟨_, (pss_cons (ps_set (i := 2) sc_spelt.nd rfl (Or.inl rfl) (pe_lst pa_nil))
  (pss_cons (ps_set (i := 3) sc_spelt.nd rfl (Or.inl rfl) pe_int)
  (pss_cons (ps_for (passes_of rfl) (by rfl) (pi_tup (pv 0)) (pg_name (i := 4) sc_spelt.nd rfl (Or.inl rfl))
  (pss_one (ps_if (pt_cmpR op_eq (pe_ix ix_tup (pv 4) pe_int (fun _ _ => rfl)) pe_str (nomark _))
  (pss_one (ps_expr (pe_bm PySem.F.plainAttrs_list PySem.F.slot_list_append PySem.F.type_list_append mt_append (pv 2) (pa_cons (pe_ix ix_tup (pv 4) pe_int (fun _ _ => rfl)) pa_nil))))
  (pss_cons (ps_expr (pe_bm PySem.F.plainAttrs_list PySem.F.slot_list_append PySem.F.type_list_append mt_append (pv 2) (pa_cons (pe_fn Gn hr (by omega) rfl passL (pa_cons (pv 4) (pa_cons (pe_ix ix_list (pv 1) (pv 3) (fun _ _ => rfl)) pa_nil))) pa_nil)))
  (pss_one (ps_aug (i := 3) sc_spelt.nd rfl (Or.inl rfl) pe_int ip_add))))))
  (pss_one (ps_ret (pe_join pe_str (pv 2))))))), go _ (?_ : wS _ _ ⟨[some (.val (FD ns)), some (.val (.lst (fiL fs))), none, none, none], none, 0⟩ _)⟩
  try dsimp only [L2.cxOf]
  refine wS_seq (wS_setOwn (wN_lst (wA_nil ⟨by simp, ?_⟩)))
  repeat' walk_at "w"
  refine ⟨fun i δ => ∃ (j : Nat) (ts : List T) (o : Option Cell), ts.length ≤ i ∧ spL ns fs = ts.flatten ++ spL (ns.drop i) (fs.drop j) ∧ okL (ns.drop i) (fs.drop j) ∧ δ = ⟨[some (.val (FD ns)), some (.val (.lst (fiL fs))), some (.own (ts.map D.str)), some (.val (.int j)), o], none, 0⟩,
    ⟨0, [], none, by simp, rfl, ho, rfl⟩, ?_, ?_⟩
  · rintro i d δ hdd ⟨j, ts, o, hts, he, hok, rfl⟩
    obtain ⟨x, hx, rfl⟩ := ndL_get hdd
    have hi := (List.getElem?_eq_some_iff.mp hx).1
    have hm := List.mem_of_getElem? hx
    have h1001 := gdL_len hg
    rw [drop_at hx] at he hok
    by_cases ht : isText x = true
    · obtain ⟨u, rfl⟩ : ∃ u, x = .text u := by cases x <;> first | exact ⟨_, rfl⟩ | cases ht
      rw [spL] at he; rw [okL] at hok
      rw [show ndN (.text u) = .tup [.str (cs "text"), .str u] from by rw [ndN]]
      repeat' walk_at "w"
      refine ⟨by simp; omega, ?_⟩
      exact ⟨j, ts ++ [u], some (.val (.tup [.str (cs "text"), .str u])), by simp; omega, by rw [he]; simp, hok, by simp [DSt.put]⟩
    · have ht : isText x = false := by simpa using ht
      obtain ⟨q, r, hq, hoq, hor⟩ := okL_node ht hok
      have hqj : fs[j]? = some q := by
        have : (fs.drop j)[0]? = some q := by rw [hq]; rfl
        rwa [List.getElem?_drop, Nat.add_zero] at this
      have hr : fs.drop (j + 1) = r := by rw [← List.drop_drop, hq]; rfl
      rw [hq, spL_node ht] at he
      have hlen : (spN x q).length ≤ 16000000 := by
        have := congrArg List.length he
        rw [List.length_append, List.length_append] at this; omega
      have hD : ∃ z l, ndN x = .tup (.str z :: l) ∧ z ≠ cs "text" := by
        cases x with
        | text u => cases ht
        | place p v => exact ⟨_, _, by rw [ndN], by decide⟩
        | loop nm p b btw => exact ⟨_, _, by rw [ndN], by decide⟩
        | choice p y m => exact ⟨_, _, by rw [ndN], by decide⟩
      obtain ⟨z, l, hD, hz⟩ := hD
      repeat' walk_at "w"
      rw [hD]
      repeat' walk_at "w"
      rw [show decide (z = (Str.ofString "text").cps.toList) = false from decide_eq_false hz]
      repeat' walk_at "w"
      refine wR_ixL (n := j) rfl (by rw [fiL_map, List.getElem?_map, hqj]; rfl) ?_
      repeat' walk_at "w"
      refine ⟨(x, q), ⟨⟨gdL_mem hg x hm, nvL_mem hnv x hm, Nat.lt_of_le_of_lt (dpL_le.mp (Nat.le_refl _) x hm) hd, ht⟩, hoq, hlen⟩, by rw [← hD]; rfl, fun d hd => ?_, fun _ => id⟩
      rw [hd]
      refine ⟨by simp; omega, ?_⟩
      repeat' walk_at "w"
      exact ⟨j + 1, ts ++ [spN x q], some (.val (.tup (.str z :: l))), by simp; omega, by rw [he, hr]; simp, by rw [hr]; exact hor, by simp [DSt.put]⟩
  · rintro δ ⟨j, ts, o, hts, he, hok, rfl⟩
    rw [ndL_len] at he hok hts
    rw [List.drop_length] at he hok
    refine wS_freeze (i := 2) rfl ?_
    repeat' walk_at "w"
    rw [cps_nil]
    have h1001 := gdL_len hg
    have hsp : spL [] (fs.drop j) = [] := by rw [spL]
    rw [hsp, List.append_nil] at he
    refine ⟨?_, ?_⟩
    · have := congrArg List.length he
      rw [List.length_flatten] at this
      simp; omega
    · rw [join_nil, ← he]; exact rfl
end

/-! W15: the law's cells, marks, texts, ways. -/
abbrev s_l_cell_at : Stmt := top 58
abbrev N_l_cell_at : List Str := ["_law_script", "_law_k"]
theorem sc_l_cell_at : FnScope N_l_cell_at ["_law_script", "_law_k"] (defScope s_l_cell_at) := ⟨rfl, rfl, rfl, by decide +kernel, rfl, by decide +kernel, by decide +kernel⟩
abbrev s_l_cell : Stmt := top 59
abbrev N_l_cell : List Str := ["_law_cells", "_law_spot", "_law_k", "_law_base"]
theorem sc_l_cell : FnScope N_l_cell ["_law_cells", "_law_spot"] (defScope s_l_cell) := ⟨rfl, rfl, rfl, by decide +kernel, rfl, by decide +kernel, by decide +kernel⟩
abbrev s_l_marks : Stmt := top 60
abbrev N_l_marks : List Str := ["_law_some"]
theorem sc_l_marks : FnScope N_l_marks [] (defScope s_l_marks) := ⟨rfl, rfl, rfl, by decide +kernel, rfl, by decide +kernel, by decide +kernel⟩
abbrev s_l_text : Stmt := top 62
abbrev N_l_text : List Str := ["_law_n", "_law_k"]
theorem sc_l_text : FnScope N_l_text ["_law_n"] (defScope s_l_text) := ⟨rfl, rfl, rfl, by decide +kernel, rfl, by decide +kernel, by decide +kernel⟩
abbrev s_l_way : Stmt := top 66
abbrev N_l_way : List Str := ["_law_kind", "_law_n"]
theorem sc_l_way : FnScope N_l_way ["_law_kind", "_law_n"] (defScope s_l_way) := ⟨rfl, rfl, rfl, by decide +kernel, rfl, by decide +kernel, by decide +kernel⟩
abbrev intsD (cs : List Int) : D := .lst (cs.map D.int)
def cCellAt : CtA (List Int × Nat) := { args := fun a => [intsD a.1, .int a.2], pre := fun a => a.1.length ≤ 1000, post := fun _ d => ∃ z : Int, d = .int z }
def cCell : CtB (List Int) := { args := fun s a => [intsD a, .adr s], pre := fun a k => a.length ≤ 1000 ∧ 0 ≤ k ∧ k ≤ 100000000, post := fun _ k d k' => k' = k + 1 ∧ ∃ z : Nat, d = .int z }
def cMarks : CtA Unit := { args := fun _ => [], post := fun _ d => d = .str SG }
def cText : CtA Nat := { args := fun a => [.int a], post := fun _ d => ∃ t : T, d = .str t ∧ t ≠ [] ∧ allSG t = true ∧ t.length ≤ 3 }
def cWay : CtA (Nat × Nat) := { args := fun a => [.str [a.1], .int a.2], pre := fun a => a.1 ∈ [110, 116, 119], post := fun _ d => ∃ w, d = .str (wayS w) }

section
variable {P : Program} {w : World} {K : PySem.W.Frag} {mg : Str → Option Value} {base : Heap} {f : Addr} {fd : FuncData} {wc : Way → Addr} {nf : Addr} {k : Nat}
theorem ok_l_cell_at (fx : Fx K mg wc nf) (F : FnP K "_law_cell_at" "_law_cell_at" s_l_cell_at f fd) : FnOk P w K mg base (L2.CX P w) (k + 1) f fd ["_law_script", "_law_k"] (spA K wc nf cCellAt) := by
  refine F.ok sc_l_cell_at (spA_len fun a _ => rfl) fun cdv A outer s H vs Q E hr h => ?_
  obtain ⟨⟨cs', i⟩, pre, go⟩ := pure_A (N := N_l_cell_at) (fun a _ => by simp [cCellAt]) h
  refine ⟨_, (pss_cons (ps_if (pt_cmpR op_lt (pv 1) (pe_callB call_len_seq (by rfl) fx.b_len bb_len (pa_cons (pv 0) pa_nil)) (nomark _))
  (pss_one (ps_ret (pe_ix ix_list (pv 0) (pv 1) (fun _ _ => rfl))))
  pss_nil)
  (pss_one (ps_ret pe_int))), go _ (?_ : wS _ _ ⟨[some (.val (intsD cs')), some (.val (.int i))], none, 0⟩ _)⟩
  try dsimp only [L2.cxOf]
  repeat' walk_at "w"
  refine ite_b (fun hb => ?_) fun hb => ?_
  · have hi : i < cs'.length := by simpa using hb
    repeat' walk_at "w"
    refine wR_ixL (n := i) rfl (by rw [List.getElem?_map, List.getElem?_eq_getElem hi]; rfl) ?_
    repeat' walk_at "w"
    exact ⟨_, rfl⟩
  · repeat' walk_at "w"
    exact ⟨_, rfl⟩
theorem ok_l_cell (fx : Fx K mg wc nf) (F : FnP K "_law_cell" "_law_cell" s_l_cell f fd) : FnOk P w K mg base (L2.CX P w) (k + 1) f fd ["_law_cells", "_law_spot"] (spB K wc cCell) := by
  refine F.ok sc_l_cell (spB_len fun _ _ _ _ => rfl) fun cdv A outer s H vs Q E hr h => ?_
  obtain ⟨cs', go⟩ := pure_B (nf := nf) (N := N_l_cell) (fun _ _ _ _ => by simp [cCell]) h
  refine ⟨_, (pss_cons (ps_asg (pe_op op_add (pe_ix ix_list (pv 1) pe_int (fun _ _ => rfl)) pe_int) (pg_sub (pv 1) pe_int set_list))
  (pss_cons (ps_set (i := 2) sc_l_cell.nd rfl (Or.inl rfl) (pe_ix ix_list (pv 1) pe_int (fun _ _ => rfl)))
  (pss_cons (ps_set (i := 3) sc_l_cell.nd rfl (Or.inl rfl) (pe_op op_add (pe_op op_mul (pe_op op_mul pe_int (pv 2)) (pv 2)) (pe_op op_mul pe_int (pv 2))))
  (pss_cons (ps_if (pt_cmpR op_gt (pe_callB call_len_seq (by rfl) fx.b_len bb_len (pa_cons (pv 0) pa_nil)) pe_int (nomark _))
  (pss_one (ps_set (i := 3) sc_l_cell.nd rfl (Or.inl rfl) (pe_op op_add (pv 3) (pe_op op_mul (pe_ix ix_list (pv 0) (pe_op op_mod (pv 2) (pe_callB call_len_seq (by rfl) fx.b_len bb_len (pa_cons (pv 0) pa_nil))) (fun _ _ => rfl)) (pe_op op_add pe_int (pe_op op_fdiv (pv 2) (pe_callB call_len_seq (by rfl) fx.b_len bb_len (pa_cons (pv 0) pa_nil))))))))
  pss_nil)
  (pss_one (ps_ret (pe_op op_fdiv (pe_op op_mod (pe_op op_mul (pv 3) pe_int) pe_int) pe_int))))))), go _ fun sp kk pre => (?_ : wS _ _ ⟨[some (.val (intsD cs')), some (.val (.adr sp)), none, none], some sp, kk⟩ _)⟩
  obtain ⟨hl, h0, h1⟩ : cs'.length ≤ 1000 ∧ 0 ≤ kk ∧ kk ≤ 100000000 := pre
  try dsimp only [L2.cxOf]
  have hk1 : -(2 ^ 64) < kk + 1 ∧ kk + 1 < (2 : Int) ^ 64 := by
    have : (2 : Int) ^ 64 = 18446744073709551616 := by decide
    omega
  refine wS_seq (wS_spot (s := sp) ?_)
  repeat' walk_at "w"
  refine ⟨rfl, rfl, ?_⟩
  repeat' walk_at "w"
  · exact .inr hk1
  rw [List.length_map]
  have last : ∀ b : Int, ∃ z : Nat, D.int (b * 48271 % 2147483647 / 7) = .int (z : Int) := fun b => by
    refine ⟨(b * 48271 % 2147483647 / 7).toNat, ?_⟩
    have h1 := Int.emod_nonneg (b * 48271) (show (2147483647 : Int) ≠ 0 by decide)
    have h2 := Int.ediv_nonneg (b := 7) h1 (by decide)
    congr 1; omega
  refine ite_b (fun hb => ?_) fun hb => ?_
  · have hl0 : (0 : Int) < cs'.length := by simpa using hb
    have hidx : ((kk + 1) % (cs'.length : Int)).toNat < cs'.length := by
      have := Int.emod_lt_of_pos (kk + 1) hl0
      have := Int.emod_nonneg (kk + 1) (Int.ne_of_gt hl0)
      omega
    repeat' walk_at "w"
    · rw [List.length_map]; exact hl0
    refine wR_ixL (n := ((kk + 1) % (cs'.length : Int)).toNat) (by rw [List.length_map]; have := Int.emod_nonneg (kk + 1) (Int.ne_of_gt hl0); omega) (by rw [List.getElem?_map, List.getElem?_eq_getElem hidx]; rfl) ?_
    repeat' walk_at "w"
    · rw [List.length_map]; exact ⟨hl0, by omega⟩
    · right
      rw [List.length_map]
      have h1 := Int.ediv_nonneg (a := kk + 1) (b := (cs'.length : Int)) (by omega) (by omega)
      have h2 := Int.ediv_le_self (a := kk + 1) (cs'.length : Int) (by omega)
      have : (2 : Int) ^ 64 = 18446744073709551616 := by decide
      omega
    · exact ⟨rfl, last _⟩
  · repeat' walk_at "w"
    · exact ⟨rfl, last _⟩
theorem ok_l_marks (fx : Fx K mg wc nf) (F : FnP K "_law_marks" "_law_marks" s_l_marks f fd) : FnOk P w K mg base (L2.CX P w) (k + 1) f fd [] (spA K wc nf cMarks) := by
  refine F.ok sc_l_marks (spA_len fun a _ => rfl) fun cdv A outer s H vs Q E hr h => ?_
  obtain ⟨a, pre, go⟩ := pure_A (N := N_l_marks) (fun a _ => by simp [cMarks]) h
  refine ⟨_, (pss_cons (ps_set (i := 0) sc_l_marks.nd rfl (Or.inl rfl) pe_str)
  (pss_one (ps_ret (pe_op op_add_str (pv 0) pe_str)))), go _ (?_ : wS _ _ ⟨[none], none, 0⟩ _)⟩
  try dsimp only [L2.cxOf]
  repeat' walk_at "w"
  · decide +kernel
  · exact congrArg D.str (by decide +kernel)
theorem SG_len : SG.length = 95 := by decide
theorem SG_get {i : Nat} (h : i < 95) : ∃ c, SG[i]? = some c ∧ c ∈ SG := by
  have hl : i < SG.length := by rw [SG_len]; exact h
  exact ⟨SG[i], List.getElem?_eq_getElem hl, List.getElem_mem hl⟩
theorem mod_nat {z : Int} {m : Nat} (hz : 0 ≤ z) (hm : 0 < m) : ∃ i : Nat, z % (m : Int) = (i : Int) ∧ i < m := by
  have h1 := Int.emod_nonneg z (show (m : Int) ≠ 0 by omega)
  have h2 := Int.emod_lt_of_pos z (show (0 : Int) < m by omega)
  exact ⟨(z % (m : Int)).toNat, by omega, by omega⟩
theorem ok_l_text (fx : Fx K mg wc nf) (F : FnP K "_law_text" "_law_text" s_l_text f fd) (Gm : Fn P w K mg base "_law_marks" [] k (spA K wc nf cMarks)) : FnOk P w K mg base (L2.CX P w) (k + 1) f fd ["_law_n"] (spA K wc nf cText) := by
  refine F.ok sc_l_text (spA_len fun a _ => rfl) fun cdv A outer s H vs Q E hr h => ?_
  obtain ⟨n, pre, go⟩ := pure_A (N := N_l_text) (fun a _ => by simp [cText]) h
  refine ⟨_, (pss_one (ps_ret (pe_join pe_str (pe_lc (own := [("_law_k", 1)]) (by rfl) sc_l_text.nd (pi_range1 (by rfl) fx.b_range (pa_cons (pe_op op_add pe_int (pe_op op_mod (pv 0) pe_int)) pa_nil)) (blkOk_by (own := [("_law_k", 1)]) (N := N_l_text) (sc := defScope s_l_text) (by decide +kernel)) (fun _ _ _ _ _ => (pg_name (i := 1) sc_l_text.nd rfl (Or.inl rfl))) (fun _ _ _ _ _ => pts_nil) (fun _ _ _ _ _ => (pe_ix ix_str (pe_fn0 Gm hr (by omega) rfl passL) (pe_op op_mod (pe_op op_add (pe_op op_fdiv (pv 0) pe_int) (pe_op op_mul (pv 1) (pe_op op_add pe_int (pe_op op_mod (pe_op op_fdiv (pv 0) pe_int) pe_int)))) pe_int) (fun _ _ => rfl))))))), go _ (?_ : wS _ _ ⟨[some (.val (.int n)), none], none, 0⟩ _)⟩
  try dsimp only [L2.cxOf]
  repeat' walk_at "w"
  obtain ⟨r, hr1, hr2⟩ := mod_nat (z := (n : Int)) (m := 3) (by omega) (by decide)
  have hr1 : (n : Int) % 3 = r := hr1
  refine wE_lc (gw_name (by simp)) ?_
  repeat' walk_at "w"

  rw [hr1]
  refine ⟨by omega, by omega, ?_⟩
  refine ⟨fun i acc kk => kk = 0 ∧ ∃ t : T, acc = (t.map fun c => [c]).map D.str ∧ allSG t = true ∧ t.length = i, ⟨rfl, [], rfl, rfl, rfl⟩, ?_, ?_⟩
  · rintro i d acc kk hd ⟨rfl, t, rfl, ht, hl⟩
    rw [List.getElem?_map] at hd
    obtain ⟨i', hi', rfl⟩ := Option.map_eq_some_iff.mp hd
    have hlt := (List.getElem?_eq_some_iff.mp hi').1
    rw [List.length_range] at hlt
    rw [List.getElem?_range hlt] at hi'
    cases hi'
    repeat' walk_at "w"
    refine ⟨(), trivial, rfl, fun d hd => ?_, fun _ => id⟩
    rw [hd]
    repeat' walk_at "w"
    · exact .inl ⟨by have : (2 : Int) ^ 64 = 18446744073709551616 := by decide
                     omega, by have : (2 : Int) ^ 64 = 18446744073709551616 := by decide
                               omega⟩
    obtain ⟨j, hj1, hj2⟩ := mod_nat (z := (n : Int) / 3 + (i : Int) * (1 + (n : Int) / 300 % 94)) (m := 95) (by
      have h1 := Int.emod_nonneg ((n : Int) / 300) (show (94 : Int) ≠ 0 by decide)
      have h2 := Int.mul_nonneg (show (0 : Int) ≤ i by omega) (show (0 : Int) ≤ 1 + (n : Int) / 300 % 94 by omega)
      omega) (by decide)
    obtain ⟨c, hc, hcS⟩ := SG_get hj2
    refine wR_ixS (n := j) (by rw [SG_len]; decide) hj1 hc ?_
    refine ⟨by simp; omega, rfl, t ++ [c], by simp, allSG_app.mpr ⟨ht, allSG_cons.mpr ⟨hcS, rfl⟩⟩, by simp [hl]⟩
  · rintro acc kk ⟨rfl, t, rfl, ht, hl⟩
    repeat' walk_at "w"
    rw [cps_nil]
    rw [List.length_map, List.length_range] at hl
    refine ⟨by rw [signs_len]; simp; omega, ?_⟩
    rw [join_signs]
    refine ⟨t, rfl, fun z => ?_, ht, by omega⟩
    rw [z] at hl; simp at hl; omega
theorem ok_l_way (fx : Fx K mg wc nf) (F : FnP K "_law_way" "_law_way" s_l_way f fd) : FnOk P w K mg base (L2.CX P w) (k + 1) f fd ["_law_kind", "_law_n"] (spA K wc nf cWay) := by
  refine F.ok sc_l_way (spA_len fun a _ => rfl) fun cdv A outer s H vs Q E hr h => ?_
  obtain ⟨⟨c, n⟩, pre, go⟩ := pure_A (N := N_l_way) (fun a _ => by simp [cWay]) h
  have pre : c ∈ [110, 116, 119] := pre
  refine ⟨_, (pss_cons (ps_if (pt_cmpR op_eq (pe_op op_mod (pe_op op_fdiv (pv 1) pe_int) pe_int) pe_int (nomark _))
  (pss_one (ps_ret (pe_ix ix_list (pe_lst (pa_cons pe_str (pa_cons pe_str (pa_cons pe_str (pa_cons pe_str (pa_cons pe_str pa_nil)))))) (pe_op op_mod (pv 1) pe_int) (fun _ _ => rfl))))
  pss_nil)
  (pss_one (ps_ret (pe_ix ix_list (pe_lst (pa_cons pe_str (pa_cons (pe_ix ix_list (pe_lst (pa_cons pe_str (pa_cons pe_str (pa_cons pe_str pa_nil)))) (pe_op op_mod (pv 1) pe_int) (fun _ _ => rfl)) (pa_cons (pe_ix ix_list (pe_lst (pa_cons pe_str (pa_cons pe_str (pa_cons pe_str (pa_cons pe_str pa_nil))))) (pe_op op_mod (pv 1) pe_int) (fun _ _ => rfl)) pa_nil)))) (pe_m1 PySem.F.slot_str_find PySem.F.type_str_find mt_find pe_str (pv 0)) (fun _ _ => rfl))))), go _ (?_ : wS _ _ ⟨[some (.val (.str [c])), some (.val (.int n))], none, 0⟩ _)⟩
  try dsimp only [L2.cxOf]
  repeat' walk_at "w"
  obtain ⟨j5, e5, l5⟩ := mod_nat (z := (n : Int)) (m := 5) (by omega) (by decide)
  obtain ⟨j3, e3, l3⟩ := mod_nat (z := (n : Int)) (m := 3) (by omega) (by decide)
  obtain ⟨j4, e4, l4⟩ := mod_nat (z := (n : Int)) (m := 4) (by omega) (by decide)
  refine ite_b (fun hb => ?_) fun hb => ?_
  · repeat' walk_at "v"
    have : ∃ v : Way, [D.str (cs "word"), .str (cs "number"), .str (cs "quoted"), .str (cs "plain"), .str (cs "line")][j5]? = some (.str (wayS v)) := by
      rcases j5 with _ | _ | _ | _ | _ | j5
      · exact ⟨.word, rfl⟩
      · exact ⟨.number, rfl⟩
      · exact ⟨.quoted, rfl⟩
      · exact ⟨.plain, rfl⟩
      · exact ⟨.line, rfl⟩
      · omega
    obtain ⟨v, hv⟩ := this
    refine wR_ixL (n := j5) e5 hv ?_
    exact ⟨v, rfl⟩
  · repeat' walk_at "v"
    have h3 : ∃ v : Way, [D.str (cs "plain"), .str (cs "quoted"), .str (cs "line")][j3]? = some (.str (wayS v)) := by
      rcases j3 with _ | _ | _ | j3
      · exact ⟨.plain, rfl⟩
      · exact ⟨.quoted, rfl⟩
      · exact ⟨.line, rfl⟩
      · omega
    have h4 : ∃ v : Way, [D.str (cs "word"), .str (cs "plain"), .str (cs "quoted"), .str (cs "line")][j4]? = some (.str (wayS v)) := by
      rcases j4 with _ | _ | _ | _ | j4
      · exact ⟨.word, rfl⟩
      · exact ⟨.plain, rfl⟩
      · exact ⟨.quoted, rfl⟩
      · exact ⟨.line, rfl⟩
      · omega
    obtain ⟨v3, hv3⟩ := h3
    obtain ⟨v4, hv4⟩ := h4
    refine wR_ixL (n := j3) e3 hv3 ?_
    repeat' walk_at "v"
    refine wR_ixL (n := j4) e4 hv4 ?_
    repeat' walk_at "v"
    simp only [List.mem_cons, List.not_mem_nil, or_false] at pre
    rcases pre with rfl | rfl | rfl
    · refine wR_ixL (n := 0) (by decide +kernel) rfl ⟨.number, rfl⟩
    · refine wR_ixL (n := 1) (by decide +kernel) rfl ⟨v3, rfl⟩
    · refine wR_ixL (n := 2) (by decide +kernel) rfl ⟨v4, rfl⟩
end

/-! W16: the law's names, rows, scope; neighbouring texts as one. -/
abbrev s_l_names : Stmt := top 61
abbrev N_l_names : List Str := ["_law_n", "_law_some", "_law_word", "_law_j", "_law_at", "_law_names_here", "_law_k", "_law_sign"]
theorem sc_l_names : FnScope N_l_names ["_law_n"] (defScope s_l_names) := ⟨rfl, rfl, rfl, by decide +kernel, rfl, by decide +kernel, by decide +kernel⟩
abbrev s_l_row : Stmt := top 63
abbrev N_l_row : List Str := ["_law_path", "_law_names_here", "_law_k"]
theorem sc_l_row : FnScope N_l_row ["_law_path", "_law_names_here"] (defScope s_l_row) := ⟨rfl, rfl, rfl, by decide +kernel, rfl, by decide +kernel, by decide +kernel⟩
abbrev s_l_scope : Stmt := top 64
abbrev N_l_scope : List Str := ["_law_names_here"]
theorem sc_l_scope : FnScope N_l_scope ["_law_names_here"] (defScope s_l_scope) := ⟨rfl, rfl, rfl, by decide +kernel, rfl, by decide +kernel, by decide +kernel⟩
abbrev s_l_one : Stmt := top 65
abbrev N_l_one : List Str := ["_law_nodes_here", "_law_found", "_law_node"]
theorem sc_l_one : FnScope N_l_one ["_law_nodes_here"] (defScope s_l_one) := ⟨rfl, rfl, rfl, by decide +kernel, rfl, by decide +kernel, by decide +kernel⟩
abbrev strsD (l : List T) : D := .lst (l.map D.str)
def nmOk (l : List T) : Prop := l.length = 12 ∧ pOk l
def cNames : CtA Int := { args := fun a => [.int a], post := fun _ d => ∃ l, d = strsD l ∧ nmOk l }
def enD (e : List T × Nat) : D := .tup [pthD e.1, .str [e.2]]
def okE (e : List T × Nat) : Prop := (e.1 ≠ [] ∧ e.1.length ≤ 2 ∧ pOk e.1) ∧ e.2 ∈ [116, 119, 110, 98, 108, 109]
def scD (es : List (List T × Nat)) : D := .lst (es.map enD)
def cRow : CtA (List T × List T) := { args := fun a => [pthD a.1, strsD a.2], pre := fun a => a.1.length ≤ 1 ∧ pOk a.1 ∧ nmOk a.2, post := fun _ d => ∃ es, d = scD es ∧ (∀ e ∈ es, okE e) ∧ es.length = 4 }
def cScope : CtA (List T) := { args := fun a => [strsD a], pre := nmOk, post := fun _ d => ∃ es, d = scD es ∧ (∀ e ∈ es, okE e) ∧ es.length = 10 }
theorem mod_int {z : Int} {m : Nat} (hm : 0 < m) : ∃ i : Nat, z % (m : Int) = (i : Int) ∧ i < m := by
  have h1 := Int.emod_nonneg z (show (m : Int) ≠ 0 by omega)
  have h2 := Int.emod_lt_of_pos z (show (0 : Int) < m by omega)
  exact ⟨(z % (m : Int)).toNat, by omega, by omega⟩
theorem nm_get {l : List T} (h : nmOk l) {i : Nat} (hi : i < 12) : ∃ t, l[i]? = some t ∧ ∀ c ∈ t, c < 1114112 := by
  have hl : i < l.length := by rw [h.1]; exact hi
  exact ⟨l[i], List.getElem?_eq_getElem hl, h.2 _ (List.getElem_mem hl)⟩
theorem hu64 {A : Around} {k : Nat} (hr : Room k A) : A.units + 64 < cLine := by have := hr.un; omega
theorem cut_mem {α : Type} {l : List α} {lo hi : Option Int} {x : α} (h : x ∈ cutT l lo hi) : x ∈ l := List.mem_of_mem_drop (List.mem_of_mem_take h)
theorem cut_le {α : Type} {l : List α} {lo hi : Option Int} : (cutT l lo hi).length ≤ l.length := by
  unfold cutT; rw [List.length_take, List.length_drop]; omega
theorem shI_ok (i : Int) : ∀ c ∈ shI i, c < 1114112 := fun c hc => by
  unfold shI at hc
  split at hc
  · rcases List.mem_cons.mp hc with e | hc
    · omega
    · have := TL.numL_digits _ c hc; omega
  · have := TL.numL_digits _ c hc; omega
theorem shI_small {i : Nat} (h : i < 100) : (shI (i : Int)).length ≤ 2 := by
  unfold shI
  rw [if_neg (by omega)]
  exact TL.numL_len (k := 2) (by decide) (by omega)
theorem LT_get {j : Nat} (h : j < 26) : ∃ c, (cs "abcdefghijklmnopqrstuvwxyz")[j]? = some c ∧ c < 1114112 := by
  rw [show cs "abcdefghijklmnopqrstuvwxyz" = (List.range 26).map (· + 97) from letters_cps, List.getElem?_map, List.getElem?_range h]
  exact ⟨_, rfl, by show j + 97 < 1114112; omega⟩
section
variable {P : Program} {w : World} {K : PySem.W.Frag} {mg : Str → Option Value} {base : Heap} {f : Addr} {fd : FuncData} {wc : Way → Addr} {nf : Addr} {k : Nat}
theorem ok_l_row (fx : Fx K mg wc nf) (F : FnP K "_law_row" "_law_row" s_l_row f fd) : FnOk P w K mg base (L2.CX P w) (k + 1) f fd ["_law_path", "_law_names_here"] (spA K wc nf cRow) := by
  refine F.ok sc_l_row (spA_len fun a _ => rfl) fun cdv A outer s H vs Q E hr h => ?_
  obtain ⟨⟨p, nm⟩, pre, go⟩ := pure_A (N := N_l_row) (fun a _ => by simp [cRow]) h
  obtain ⟨hp, hpo, hnm⟩ : p.length ≤ 1 ∧ pOk p ∧ nmOk nm := pre
  refine ⟨_, (pss_one (ps_ret (pe_lc (own := [("_law_k", 2)]) (by rfl) sc_l_row.nd (pi_range1 (by rfl) fx.b_range (pa_cons pe_int pa_nil)) (blkOk_by (own := [("_law_k", 2)]) (N := N_l_row) (sc := defScope s_l_row) (by decide +kernel)) (fun _ _ _ _ _ => (pg_name (i := 2) sc_l_row.nd rfl (Or.inl rfl))) (fun _ _ _ _ _ => pts_nil) (fun _ _ _ _ _ => (pe_tup (pa_cons (pe_op (show OpR _ _ (rCatA K) from op_catA) (pv 0) (pe_tup (pa_cons (pe_ix (show IxR _ (rIxL K) from ix_list) (pv 1) (pv 2) (fun _ _ => rfl)) pa_nil))) (pa_cons (pe_ix ix_str pe_str (pv 2) (fun _ _ => rfl)) pa_nil))))))), go _ (?_ : wS _ _ ⟨[some (.val (pthD p)), some (.val (strsD nm)), none], none, 0⟩ _)⟩
  try dsimp only [L2.cxOf]
  repeat' walk_at "v"
  refine wE_lc (gw_name (by simp)) ?_
  repeat' walk_at "v"
  refine ⟨by decide, by decide, ?_⟩
  refine ⟨fun i acc kk => kk = 0 ∧ ∃ es, acc = es.map enD ∧ (∀ e ∈ es, okE e) ∧ es.length = i, ⟨rfl, [], rfl, by simp, rfl⟩, ?_, ?_⟩
  · rintro i d acc kk hd ⟨rfl, es, rfl, hes, hl⟩
    rw [List.getElem?_map] at hd
    obtain ⟨i', hi', rfl⟩ := Option.map_eq_some_iff.mp hd
    have hlt := (List.getElem?_eq_some_iff.mp hi').1
    rw [List.length_range] at hlt
    rw [List.getElem?_range hlt] at hi'
    cases hi'
    have hlt : i < 4 := hlt
    obtain ⟨t, ht, hto⟩ := nm_get hnm (show i < 12 by omega)
    repeat' walk_at "v"
    refine wR_ixL (n := i) rfl (by rw [List.getElem?_map, ht]; rfl) ?_
    repeat' walk_at "v"
    · simp; omega
    have hc : ∃ c, (cs "twnb")[i]? = some c ∧ c ∈ [116, 119, 110, 98, 108, 109] := by
      rcases i with _ | _ | _ | _ | i
      · exact ⟨116, rfl, by simp⟩
      · exact ⟨119, rfl, by simp⟩
      · exact ⟨110, rfl, by simp⟩
      · exact ⟨98, rfl, by simp⟩
      · omega
    obtain ⟨c, hc, hcm⟩ := hc
    refine wR_ixS (n := i) (by decide) rfl hc ?_
    repeat' walk_at "v"
    refine ⟨by simp; omega, rfl, es ++ [(p ++ [t], c)], by simp [enD, pthD], fun e he => ?_, by simp [hl]⟩
    rcases List.mem_append.mp he with he | he
    · exact hes e he
    · rw [List.mem_singleton.mp he]
      refine ⟨⟨by simp, by simp; omega, fun u hu => ?_⟩, hcm⟩
      rcases List.mem_append.mp hu with hu | hu
      · exact hpo u hu
      · rw [List.mem_singleton.mp hu]; exact hto
  · rintro acc kk ⟨rfl, es, rfl, hes, hl⟩
    repeat' walk_at "v"
    exact ⟨es, rfl, hes, hl⟩
theorem ok_l_scope (fx : Fx K mg wc nf) (F : FnP K "_law_scope" "_law_scope" s_l_scope f fd) (Gr : Fn P w K mg base "_law_row" ["_law_path", "_law_names_here"] k (spA K wc nf cRow)) : FnOk P w K mg base (L2.CX P w) (k + 1) f fd ["_law_names_here"] (spA K wc nf cScope) := by
  refine F.ok sc_l_scope (spA_len fun a _ => rfl) fun cdv A outer s H vs Q E hr h => ?_
  obtain ⟨nm, hnm, go⟩ := pure_A (N := N_l_scope) (fun a _ => by simp [cScope]) h
  have hnm : nmOk nm := hnm
  refine ⟨_, (pss_one (ps_ret (pe_op op_cat (pe_op op_cat (pe_fn Gr hr (by omega) rfl passL (pa_cons (pe_tup pa_nil) (pa_cons (pv 0) pa_nil))) (pe_fn Gr hr (by omega) rfl passL (pa_cons (pe_tup (pa_cons (pe_ix ix_list (pv 0) pe_int (fun _ _ => rfl)) pa_nil)) (pa_cons (pv 0) pa_nil)))) (pe_lst (pa_cons (pe_tup (pa_cons (pe_tup (pa_cons (pe_ix ix_list (pv 0) pe_int (fun _ _ => rfl)) pa_nil)) (pa_cons pe_str pa_nil))) (pa_cons (pe_tup (pa_cons (pe_tup (pa_cons (pe_ix ix_list (pv 0) pe_int (fun _ _ => rfl)) pa_nil)) (pa_cons pe_str pa_nil))) pa_nil)))))), go _ (?_ : wS _ _ ⟨[some (.val (strsD nm))], none, 0⟩ _)⟩
  try dsimp only [L2.cxOf]
  obtain ⟨t4, h4, o4⟩ := nm_get hnm (show 4 < 12 by omega)
  obtain ⟨t5, h5, o5⟩ := nm_get hnm (show 5 < 12 by omega)
  obtain ⟨t6, h6, o6⟩ := nm_get hnm (show 6 < 12 by omega)
  have one : ∀ {t : T}, (∀ c ∈ t, c < 1114112) → pOk [t] := fun h u hu => by rw [List.mem_singleton.mp hu]; exact h
  repeat' walk_at "v"
  refine ⟨([], nm), ⟨by simp, fun u hu => by simp at hu, hnm⟩, rfl, fun d hd => ?_, fun _ => id⟩
  obtain ⟨e1, rfl, hk1, hl1⟩ : ∃ es, d = scD es ∧ (∀ e ∈ es, okE e) ∧ es.length = 4 := hd
  repeat' walk_at "v"
  refine wR_ixL (n := 4) rfl (by rw [List.getElem?_map, h4]; rfl) ?_
  repeat' walk_at "v"
  refine ⟨([t4], nm), ⟨by simp, one o4, hnm⟩, rfl, fun d hd => ?_, fun _ => id⟩
  obtain ⟨e2, rfl, hk2, hl2⟩ : ∃ es, d = scD es ∧ (∀ e ∈ es, okE e) ∧ es.length = 4 := hd
  refine ⟨_, _, rfl, rfl, by simp; omega, ?_⟩
  repeat' walk_at "v"
  refine wR_ixL (n := 5) rfl (by rw [List.getElem?_map, h5]; rfl) ?_
  repeat' walk_at "v"
  refine wR_ixL (n := 6) rfl (by rw [List.getElem?_map, h6]; rfl) ?_
  repeat' walk_at "v"
  refine ⟨_, _, rfl, rfl, by simp; omega, ?_⟩
  refine ⟨e1 ++ e2 ++ [([t5], 108), ([t6], 109)], by simp [scD, enD, pthD]; exact ⟨rfl, rfl⟩, fun e he => ?_, by simp [hl1, hl2]⟩
  rcases List.mem_append.mp he with he | he
  · rcases List.mem_append.mp he with he | he
    · exact hk1 e he
    · exact hk2 e he
  · simp at he
    rcases he with rfl | rfl
    · exact ⟨⟨by simp, by simp, one o5⟩, by simp⟩
    · exact ⟨⟨by simp, by simp, one o6⟩, by simp⟩
theorem ok_l_names (fx : Fx K mg wc nf) (F : FnP K "_law_names" "_law_names" s_l_names f fd) : FnOk P w K mg base (L2.CX P w) (k + 1) f fd ["_law_n"] (spA K wc nf cNames) := by
  refine F.ok sc_l_names (spA_len fun a _ => rfl) fun cdv A outer s H vs Q E hr h => ?_
  obtain ⟨n, pre, go⟩ := pure_A (N := N_l_names) (fun a _ => by simp [cNames]) h
  refine ⟨_, (pss_cons (ps_set (i := 1) sc_l_names.nd rfl (Or.inr rfl) pe_str)
  (pss_cons (ps_set (i := 2) sc_l_names.nd rfl (Or.inl rfl) (pe_join pe_str (pe_lc (own := [("_law_j", 3)]) (by rfl) sc_l_names.nd (pi_range1 (by rfl) fx.b_range (pa_cons pe_int pa_nil)) (blkOk_by (own := [("_law_j", 3)]) (N := N_l_names) (sc := defScope s_l_names) (by decide +kernel)) (fun _ _ _ _ _ => (pg_name (i := 3) sc_l_names.nd rfl (Or.inl rfl))) (fun _ _ _ _ _ => pts_nil) (fun _ _ _ _ _ => (pe_ix ix_str (pv 1) (pe_op op_mod (pe_op op_add (pe_op op_fdiv (pv 0) pe_int) (pe_op op_mul pe_int (pv 3))) pe_int) (fun _ _ => rfl))))))
  (pss_cons (ps_set (i := 4) sc_l_names.nd rfl (Or.inl rfl) (pe_op op_mod (pe_op op_fdiv (pv 0) pe_int) pe_int))
  (pss_cons (ps_set (i := 5) sc_l_names.nd rfl (Or.inl rfl) (pe_lst pa_nil))
  (pss_cons (ps_for (passes_of rfl) (by rfl) (pi_range1 (by rfl) fx.b_range (pa_cons pe_int pa_nil)) (pg_name (i := 6) sc_l_names.nd rfl (Or.inl rfl))
  (pss_cons (ps_set (i := 7) sc_l_names.nd rfl (Or.inl rfl) (pe_ix ix_str (pv 1) (pe_op op_mod (pe_op op_add (pe_op op_add (pe_op op_fdiv (pv 0) pe_int) (pe_op op_mul pe_int (pv 6))) pe_int) pe_int) (fun _ _ => rfl)))
  (pss_one (ps_expr (pe_bm PySem.F.plainAttrs_list PySem.F.slot_list_append PySem.F.type_list_append mt_append (pv 5) (pa_cons (pe_ix ix_list (pe_lst (pa_cons (pe_op op_add_str (pe_slice sl_str (pv 2) po_none (po_some pe_int)) (pe_callTy call_str_int (by rfl) fx.b_str bb_str (pa_cons (pv 6) pa_nil))) (pa_cons (pe_op op_add_str (pe_op op_add_str (pe_slice sl_str (pv 2) po_none (po_some (pv 4))) (pv 7)) (pe_slice sl_str (pv 2) (po_some (pe_op op_add (pv 4) pe_int)) po_none)) (pa_cons (pe_slice sl_str (pe_op op_add_str (pv 7) (pv 2)) po_none (po_some (pe_op op_add pe_int (pe_op op_mod (pe_op op_fdiv (pv 0) pe_int) pe_int)))) pa_nil)))) (pe_op op_mod (pv 0) pe_int) (fun _ _ => rfl)) pa_nil))))))
  (pss_one (ps_ret (pv 5)))))))), go _ (?_ : wS _ _ ⟨[some (.val (.int n)), none, none, none, none, none, none, none], none, 0⟩ _)⟩
  try dsimp only [L2.cxOf]
  have hLT : (cs "abcdefghijklmnopqrstuvwxyz").length ≤ 16777216 := by decide
  repeat' walk_at "v"
  refine wE_lc (gw_name (by simp)) ?_
  repeat' walk_at "v"
  refine ⟨by decide, by decide, ?_⟩
  refine ⟨fun i acc kk => kk = 0 ∧ ∃ t : T, acc = (t.map fun c => [c]).map D.str ∧ (∀ c ∈ t, c < 1114112) ∧ t.length = i, ⟨rfl, [], rfl, by simp, rfl⟩, ?_, ?_⟩
  · rintro i d acc kk hd ⟨rfl, t, rfl, ht, hl⟩
    rw [List.getElem?_map] at hd
    obtain ⟨i', hi', rfl⟩ := Option.map_eq_some_iff.mp hd
    have hlt := (List.getElem?_eq_some_iff.mp hi').1
    rw [List.length_range] at hlt
    rw [List.getElem?_range hlt] at hi'
    cases hi'
    repeat' walk_at "v"
    obtain ⟨j, hj1, hj2⟩ := mod_int (z := (n : Int) / 192 + 5 * (i : Int)) (m := 26) (by decide)
    obtain ⟨c, hc, hco⟩ := LT_get hj2
    refine wR_ixS (n := j) hLT hj1 hc ?_
    have hlt : i < 8 := hlt
    refine ⟨by simp; omega, rfl, t ++ [c], by simp, fun x hx => ?_, by simp [hl]⟩
    rcases List.mem_append.mp hx with hx | hx
    · exact ht x hx
    · rw [List.mem_singleton.mp hx]; exact hco
  · rintro acc kk ⟨rfl, word, rfl, hwo, hwl⟩
    have hwl : word.length = 8 := by rw [hwl]; decide
    repeat' walk_at "v"
    rw [cps_nil]
    refine ⟨by rw [signs_len]; simp; omega, ?_⟩
    rw [join_signs]
    repeat' walk_at "v"
    obtain ⟨jat, hat1, hat2⟩ := mod_int (z := (n : Int) / 24) (m := 8) (by decide)
    have hat1 : (n : Int) / 24 % 8 = jat := hat1
    rw [hat1]
    refine ⟨by decide, by decide, ?_⟩
    refine ⟨fun i δ => ∃ (l : List T) (o1 o2 o3 : Option Cell), l.length = i ∧ pOk l ∧ δ = ⟨[some (.val (.int n)), some (.val (.str (cs "abcdefghijklmnopqrstuvwxyz"))), some (.val (.str word)), o1, some (.val (.int jat)), some (.own (l.map D.str)), o2, o3], none, 0⟩,
      ⟨[], none, none, none, rfl, fun u hu => by simp at hu, rfl⟩, ?_, ?_⟩
    · rintro i d δ hd ⟨l, o1, o2, o3, hll, hlo, rfl⟩
      rw [List.getElem?_map] at hd
      obtain ⟨i', hi', rfl⟩ := Option.map_eq_some_iff.mp hd
      have hlt := (List.getElem?_eq_some_iff.mp hi').1
      rw [List.length_range] at hlt
      rw [List.getElem?_range hlt] at hi'
      cases hi'
      have hlt : i < 12 := hlt
      repeat' walk_at "v"
      obtain ⟨j, hj1, hj2⟩ := mod_int (z := (n : Int) / 192 + 7 * (i : Int) + 1) (m := 26) (by decide)
      obtain ⟨c, hc, hco⟩ := LT_get hj2
      refine wR_ixS (n := j) hLT hj1 hc ?_
      have c1 : (cutT word none (some 1)).length ≤ 8 := Nat.le_trans cut_le (Nat.le_of_eq hwl)
      have c2 : (cutT word none (some (jat : Int))).length ≤ 8 := Nat.le_trans cut_le (Nat.le_of_eq hwl)
      have c3 : (cutT word (some ((jat : Int) + 1)) none).length ≤ 8 := Nat.le_trans cut_le (Nat.le_of_eq hwl)
      have sh := shI_small (i := i) (by omega)
      have hw8 : word.length ≤ 16777216 := by omega
      have key : ∀ x : Int, ∀ b : Nat, [D.str (cutT word none (some 1) ++ shI (i : Int)), .str (cutT word none (some (jat : Int)) ++ [c] ++ cutT word (some ((jat : Int) + 1)) none), .str (cutT ([c] ++ word) none (some x))].length = 3 → b < 3 →
          ∃ u : T, [D.str (cutT word none (some 1) ++ shI (i : Int)), .str (cutT word none (some (jat : Int)) ++ [c] ++ cutT word (some ((jat : Int) + 1)) none), .str (cutT ([c] ++ word) none (some x))][b]? = some (.str u) ∧ ∀ y ∈ u, y < 1114112 := by
        intro x b _ hb
        rcases b with _ | _ | _ | b
        · refine ⟨_, rfl, fun y hy => ?_⟩
          rcases List.mem_append.mp hy with hy | hy
          · exact hwo y (cut_mem hy)
          · exact shI_ok _ y hy
        · refine ⟨_, rfl, fun y hy => ?_⟩
          rcases List.mem_append.mp hy with hy | hy
          · rcases List.mem_append.mp hy with hy | hy
            · exact hwo y (cut_mem hy)
            · rw [List.mem_singleton.mp hy]; exact hco
          · exact hwo y (cut_mem hy)
        · refine ⟨_, rfl, fun y hy => ?_⟩
          rcases List.mem_cons.mp (cut_mem hy) with e | hy
          · rw [e]; exact hco
          · exact hwo y hy
        · omega
      repeat' walk_at "v"
      · exact hw8
      · rw [Int.natAbs_natCast]
        have h12 : i.log2 ≤ i := Nat.log2_le_self i
        omega
      · omega
      · exact hw8
      · rw [List.length_singleton]; omega
      · exact hw8
      · rw [List.length_append, List.length_singleton]; omega
      · rw [List.length_singleton]; omega
      · rw [List.length_append, List.length_singleton]; omega
      · obtain ⟨b, hb1, hb2⟩ := mod_int (z := (n : Int)) (m := 3) (by decide)
        obtain ⟨u, hu, huo⟩ := key (1 + (n : Int) / 3 % 8) b rfl hb2
        refine wR_ixL (n := b) hb1 hu ?_
        refine ⟨by rw [List.length_map]; omega, ?_⟩
        refine ⟨l ++ [u], o1, some (.val (.int (i : Int))), some (.val (.str [c])), by simp [hll], fun t ht => ?_, by simp [DSt.put]⟩
        rcases List.mem_append.mp ht with ht | ht
        · exact hlo t ht
        · rw [List.mem_singleton.mp ht]; exact huo
    · rintro δ ⟨l, o1, o2, o3, hll, hlo, rfl⟩
      refine wS_freeze (i := 5) rfl ?_
      repeat' walk_at "v"
      exact ⟨l, rfl, by rw [hll]; decide, hlo⟩
end

/-! W17: neighbouring texts as one; places. -/
abbrev s_l_place : Stmt := top 67
abbrev N_l_place : List Str := ["_law_path", "_law_kind", "_law_tidy", "_law_n", "_law_way_here", "_law_node", "_law_behind"]
theorem sc_l_place : FnScope N_l_place ["_law_path", "_law_kind", "_law_tidy", "_law_n"] (defScope s_l_place) := ⟨rfl, rfl, rfl, by decide +kernel, rfl, by decide +kernel, by decide +kernel⟩
mutual
def noL : D → Bool
  | .tup l => noLs l
  | .lst _ => false
  | _ => true
def noLs : List D → Bool
  | [] => true
  | d :: l => noL d && noLs l
end
mutual
theorem noL_to {K : PySem.W.Frag} {wc : Way → Addr} {H : Hp} : ∀ (d : D) (P P' : Addr → Prop) (v : V), noL d = true → Rep K wc d P H v → Rep K wc d P' H v
  | .non, _, _, _, _, h => h
  | .bl b, _, _, _, _, h => h
  | .int i, _, _, _, _, h => h
  | .str t, _, _, _, _, h => h
  | .ty n, _, _, _, _, h => h
  | .adr a, _, _, _, _, h => h
  | .tup l, P, P', v, o, h => by
    have ih := noLs_to (K := K) (wc := wc) (H := H) l
    rw [noL] at o
    unfold Rep at h ⊢
    obtain ⟨a, vs, e, s, r⟩ := h
    exact ⟨a, vs, e, s, ih P P' vs o r⟩
  | .lst l, _, _, _, o, _ => by simp [noL] at o
  | .way w, _, _, v, _, h => by unfold Rep at h ⊢; exact h
  | .dic l, _, _, v, _, h => by unfold Rep at h ⊢; exact h
theorem noLs_to {K : PySem.W.Frag} {wc : Way → Addr} {H : Hp} : ∀ (l : List D) (P P' : Addr → Prop) (vs : List V), noLs l = true → RepL K wc l P H vs → RepL K wc l P' H vs
  | [], _, _, _, _, h => by rw [h.unnil]; exact .nil
  | d :: l, P, P', vs, o, h => by
    have ih := noL_to (K := K) (wc := wc) (H := H) d
    have ihl := noLs_to (K := K) (wc := wc) (H := H) l
    rw [noLs, Bool.and_eq_true] at o
    obtain ⟨v, r, rfl, h1, h2⟩ := h.uncons
    exact .cons (ih P P' v o.1 h1) (ihl P P' r o.2 h2)
end
theorem noL_ok {p : Pr} {d : D} (h : noL d = true) : NoL p d := fun P P' H v r => noL_to d P P' v h r
theorem wR_ixLg {p : Pr} {l : List D} {i : Int} {n : Nat} {d : D} {Φ : D → Prop} (e : ixN l.length i = some n) (h : l[n]? = some d) (q : Φ d) : wR p (rIxL p.K) (.lst l) (.int i) Φ := fun P H x y Q _ rx ry f => by
  unfold Rep at rx ry
  obtain ⟨a, vs, rfl, hp, s, r⟩ := rx
  obtain ⟨v, h1, h2⟩ := r.get h
  refine ⟨a, vs, i, v, rfl, ry, SqL.of s, ?_, f d v H q (Same.refl H) (h2.mono fun _ z => z.1)⟩
  unfold atI
  rw [r.len, e]; exact h1
theorem ixN_last {n : Nat} (h : 0 < n) : ixN n (-1) = some (n - 1) := by
  unfold ixN
  rw [if_neg (by omega), if_pos (by omega)]
  congr 1; omega
theorem one_nk {L : List Node} (h : nkL L) : nkL (one L) := by
  rw [nkL_iff] at *
  exact one_all (fun a b _ _ => by rw [nkN]; trivial) L h
theorem one_dp {L : List Node} {d : Nat} (h : dpL L ≤ d) : dpL (one L) ≤ d := by
  rw [dpL_le] at *
  exact one_all (fun a b _ _ => by rw [dpN]; omega) L h
theorem one_tx (L : List Node) : txL (one L) = txL L := one_sum (f := txN) (fun a b => by simp [txN]) L
theorem txL_mem {t : T} : ∀ {L : List Node}, .text t ∈ L → t.length ≤ txL L
  | [], h => by cases h
  | n :: L, h => by
    rcases List.mem_cons.mp h with e | h
    · rw [← e]; simp [txL, txN]
    · have := txL_mem h
      simp [txL] at *; omega
theorem ndL_app (a b : List Node) : ndL (a ++ b) = ndL a ++ ndL b := by rw [ndL_map, ndL_map, ndL_map, List.map_append]
def cOne : CtA (List Node) := { args := fun a => [.lst (ndL a)], pre := fun a => vaL a ∧ nkL a ∧ dpL a ≤ 30 ∧ a.length ≤ 1000 ∧ txL a ≤ 100000, post := fun a d => d = FD (one a) }
/-- what stands for a piece of a form -/
structure PcG (tidy : Bool) (dp pd rb : Nat) (L : List Node) : Prop where
  gd : gdL L
  nk : nkL L
  dpb : dpL L ≤ dp
  len : L.length ≤ 2
  pdb : pdL L ≤ pd
  rbb : rbL L ≤ rb
  tx : txL L ≤ 4
  tk : tkL 30 L
  td : tidy = true → TD L
def cPlace : CtA (List T × Nat × Bool × Nat) := { args := fun a => [pthD a.1, .str [a.2.1], .bl a.2.2.1, .int a.2.2.2], pre := fun a => a.2.1 ∈ [110, 116, 119] ∧ pOk a.1, post := fun a d => ∃ L, d = .lst (ndL L) ∧ PcG a.2.2.1 0 1 1 L }
section
variable {P : Program} {w : World} {K : PySem.W.Frag} {mg : Str → Option Value} {base : Heap} {f : Addr} {fd : FuncData} {wc : Way → Addr} {nf : Addr} {k : Nat}
theorem pl_one {p : List T} {v : Way} {tidy : Bool} (hp : pOk p) (ht : tidy = false) : PcG tidy 0 1 1 [.place p v] where
  gd := by rw [gdL, gdL, gdN]; exact ⟨trivial, trivial, by simp⟩
  nk := by rw [nkL, nkL, nkN]; exact ⟨hp, trivial⟩
  dpb := by rw [dpL, dpL, dpN]; simp
  len := by simp
  pdb := by rw [pdL, pdL, pdN]; simp
  rbb := by rw [rbL, rbL, rbN, pdL]; simp
  tx := by simp [txL, txN]
  tk := by rw [tkL, tkL, tkN]; exact ⟨trivial, trivial⟩
  td := fun z => by rw [ht] at z; cases z
theorem pl_two {p : List T} {v : Way} {tidy : Bool} {c : Nat} {t : T} (hp : pOk p) (hc : c ∈ ends v) (hS : c ∈ SG) (ht : allSG t = true) (hl : t.length ≤ 3) : PcG tidy 0 1 1 [.place p v, .text (c :: t)] where
  gd := by rw [gdL, gdL, gdL, gdN, gdN]; exact ⟨trivial, ⟨⟨by simp, allSG_cons.mpr ⟨hS, ht⟩, by simp; omega⟩, trivial, by simp⟩, by simp⟩
  nk := by rw [nkL, nkL, nkL, nkN, nkN]; exact ⟨hp, trivial, trivial⟩
  dpb := by rw [dpL, dpL, dpL, dpN, dpN]; simp
  len := by simp
  pdb := by rw [pdL, pdL, pdL, pdN, pdN]; simp
  rbb := by rw [rbL, rbL, rbL, rbN, rbN, pdL, pdL, pdN]; simp [pdL]
  tx := by simp [txL, txN]; omega
  tk := by rw [tkL, tkL, tkL, tkN, tkN]; exact ⟨trivial, trivial, trivial⟩
  td := fun _ => td_place hc hS ht
theorem ok_l_place (fx : Fx K mg wc nf) (F : FnP K "_law_place" "_law_place" s_l_place f fd) (Gw : Fn P w K mg base "_law_way" ["_law_kind", "_law_n"] k (spA K wc nf cWay)) (Gt : Fn P w K mg base "_law_text" ["_law_n"] k (spA K wc nf cText)) : FnOk P w K mg base (L2.CX P w) (k + 1) f fd ["_law_path", "_law_kind", "_law_tidy", "_law_n"] (spA K wc nf cPlace) := by
  refine F.ok sc_l_place (spA_len fun a _ => rfl) fun cdv A outer s H vs Q E hr h => ?_
  obtain ⟨⟨p, c, tidy, n⟩, pre, go⟩ := pure_A (N := N_l_place) (fun a _ => by simp [cPlace]) h
  obtain ⟨hc, hp⟩ : c ∈ [110, 116, 119] ∧ pOk p := pre
  have hu := hu_of hr
  refine ⟨_, (pss_cons (ps_set (i := 4) sc_l_place.nd rfl (Or.inl rfl) (pe_fn Gw hr (by omega) rfl passL (pa_cons (pv 1) (pa_cons (pv 3) pa_nil))))
  (pss_cons (ps_set (i := 5) sc_l_place.nd rfl (Or.inl rfl) (pe_tup (pa_cons pe_str (pa_cons (pv 0) (pa_cons (pv 4) pa_nil)))))
  (pss_cons (ps_if (PW.pt (pw_and (pt_not (pt_val (pv 2))) (pw_and1 (pt_cmpR op_gt (pe_op op_mod (pe_op op_fdiv (pv 3) pe_int) pe_int) pe_int (nomark _)))))
  (pss_one (ps_ret (pe_lst (pa_cons (pv 5) pa_nil))))
  pss_nil)
  (pss_cons (ps_set (i := 6) sc_l_place.nd rfl (Or.inl rfl) (pe_ix ix_str (pe_dget2 hu (pe_disp (pps_cons pe_str pe_str (pps_cons pe_str pe_str pps_nil)) rfl rfl (fun z => by cases z) (by decide)) (pv 4) pe_str ⟨rfl, rfl, rfl, rfl⟩) (pe_op op_mod (pe_op op_fdiv (pv 3) pe_int) pe_int) (fun _ _ => rfl)))
  (pss_one (ps_ret (pe_lst (pa_cons (pv 5) (pa_cons (pe_tup (pa_cons pe_str (pa_cons (pe_op op_add_str (pv 6) (pe_fn Gt hr (by omega) rfl passL (pa_cons (pe_op op_fdiv (pv 3) pe_int) pa_nil))) pa_nil))) pa_nil))))))))), go _ (?_ : wS _ _ ⟨[some (.val (pthD p)), some (.val (.str [c])), some (.val (.bl tidy)), some (.val (.int n)), none, none, none], none, 0⟩ _)⟩
  try dsimp only [L2.cxOf]
  repeat' walk_at "v"
  refine ⟨(c, n), hc, rfl, fun d hd => ?_, fun _ => id⟩
  obtain ⟨v, rfl⟩ : ∃ w, d = .str (wayS w) := hd
  repeat' walk_at "y"
  refine wS_seq ?_
  repeat' walk_at "y"
  have e0 : ndN (.place p v) = .tup [.str (cs "place"), pthD p, .str (wayS v)] := by rw [ndN]
  refine wS_cut (I := fun δ => δ = ⟨[some (.val (pthD p)), some (.val (.str [c])), some (.val (.bl tidy)), some (.val (.int n)), some (.val (.str (wayS v))), some (.val (.tup [.str (cs "place"), pthD p, .str (wayS v)])), none], none, 0⟩) ?_ ?_
  · repeat' walk_at "v"
    cases tidy with
    | true =>
      repeat' walk_at "v"
      exact rfl
    | false =>
      repeat' walk_at "v"
      refine ite_b (fun hb => ?_) fun hb => ?_
      · repeat' walk_at "v"
        exact ⟨[.place p v], by rw [ndL, ndL, e0], pl_one hp rfl⟩
      · repeat' walk_at "v"
        exact rfl
  · rintro δ rfl
    repeat' walk_at "v"
    refine wE_disp (.cons (.cons .nil)) (by decide) rfl ?_
    repeat' walk_at "v"
    obtain ⟨j, hj1, hj2⟩ := mod_nat (z := (n : Int) / 576) (m := 5) (by omega) (by decide)
    have hb : ∃ z, ((lkD [((Str.ofString "plain").cps.toList, (Str.ofString "\n&<>|").cps.toList), ((Str.ofString "line").cps.toList, (Str.ofString "\n\n\n\n\n").cps.toList)] (wayS v)).getD (Str.ofString " .;<\n").cps.toList)[j]? = some z ∧ z ∈ ends v ∧ z ∈ SG := by
      have : ∀ (v : Way) (j : Fin 5), ∃ z, ((lkD [((Str.ofString "plain").cps.toList, (Str.ofString "\n&<>|").cps.toList), ((Str.ofString "line").cps.toList, (Str.ofString "\n\n\n\n\n").cps.toList)] (wayS v)).getD (Str.ofString " .;<\n").cps.toList)[j.val]? = some z ∧ z ∈ ends v ∧ z ∈ SG := by
        intro v j
        cases v
        all_goals
          rcases j with ⟨_ | _ | _ | _ | _ | j, hj⟩
          all_goals first | (exact ⟨_, rfl, by decide +kernel, by decide +kernel⟩) | omega
      exact this v ⟨j, hj2⟩
    obtain ⟨z, hz, hze, hzS⟩ := hb
    refine wR_ixS (n := j) ?_ hj1 hz ?_
    · cases v <;> decide +kernel
    repeat' walk_at "v"
    refine ⟨n / 7, trivial, ?_, fun d hd => ?_, fun _ => id⟩
    · show [D.int ((n : Int) / 7)] = [D.int ((n / 7 : Nat) : Int)]
      congr 2
    obtain ⟨t, rfl, ht0, htS, htl⟩ : ∃ t : T, d = .str t ∧ t ≠ [] ∧ allSG t = true ∧ t.length ≤ 3 := hd
    repeat' walk_at "v"
    · rw [List.length_singleton]; omega
    · refine ⟨[.place p v, .text (z :: t)], ?_, pl_two hp hze hzS htS htl⟩
      rw [ndL, ndL, ndL, e0, show ndN (.text (z :: t)) = .tup [.str (cs "text"), .str (z :: t)] from by rw [ndN]]; rfl
end

/-! W18: neighbouring texts as one. -/
theorem hu64' {X : Cx} {k : Nat} (hr : Room k X.A) : X.A.units + 64 < cLine := hu64 hr
theorem nd_notext {x : Node} (ht : isText x = false) : ∃ z l, ndN x = .tup (.str z :: l) ∧ z ≠ cs "text" := by
  cases x with
  | text u => cases ht
  | place p v => exact ⟨_, _, by rw [ndN], by decide⟩
  | loop nm p b btw => exact ⟨_, _, by rw [ndN], by decide⟩
  | choice p y m => exact ⟨_, _, by rw [ndN], by decide⟩
theorem nd_text (u : T) : ndN (.text u) = .tup [.str (cs "text"), .str u] := by rw [ndN]
theorem txL_app (a b : List Node) : txL (a ++ b) = txL a + txL b := by simp [txL]
section
variable {P : Program} {w : World} {K : PySem.W.Frag} {mg : Str → Option Value} {base : Heap} {f : Addr} {fd : FuncData} {wc : Way → Addr} {nf : Addr} {k : Nat}
theorem ok_l_one (fx : Fx K mg wc nf) (F : FnP K "_law_one" "_law_one" s_l_one f fd) : FnOk P w K mg base (L2.CX P w) (k + 1) f fd ["_law_nodes_here"] (spA K wc nf cOne) := by
  refine F.ok sc_l_one (spA_len fun a _ => rfl) fun cdv A outer s H vs Q E hr h => ?_
  obtain ⟨L, pre, go⟩ := pure_A (N := N_l_one) (fun a _ => by simp [cOne]) h
  obtain ⟨hv, hk, hd, hl, htx⟩ : vaL L ∧ nkL L ∧ dpL L ≤ 30 ∧ L.length ≤ 1000 ∧ txL L ≤ 100000 := pre
  have hu := hu64 hr
  refine ⟨_, (pss_cons (ps_set (i := 1) sc_l_one.nd rfl (Or.inl rfl) (pe_lst pa_nil))
  (pss_cons (ps_for (passes_of rfl) (by rfl) (pi_list (pv 0)) (pg_name (i := 2) sc_l_one.nd rfl (Or.inl rfl))
  (pss_one (ps_if (PW.pt (pw_and (pt_cmpR op_eq (pe_ix ix_tup (pv 2) pe_int (fun _ _ => rfl)) pe_str (nomark _)) (pw_and (pt_cmpR (op_neD hu) (pv 1) (pe_lst pa_nil) (nomark _)) (pw_and1 (pt_cmpR op_eq (pe_ix ix_tup (pe_ix ix_list (pv 1) (pe_un un_neg pe_int) (fun _ _ => rfl)) pe_int (fun _ _ => rfl)) pe_str (nomark _))))))
  (pss_one (ps_asg (pe_tup (pa_cons pe_str (pa_cons (pe_op op_add_str (pe_ix ix_tup (pe_ix ix_list (pv 1) (pe_un un_neg pe_int) (fun _ _ => rfl)) pe_int (fun _ _ => rfl)) (pe_ix ix_tup (pv 2) pe_int (fun _ _ => rfl))) pa_nil))) (pg_sub (pv 1) (pe_un un_neg pe_int) set_list)))
  (pss_one (ps_expr (pe_bm PySem.F.plainAttrs_list PySem.F.slot_list_append PySem.F.type_list_append mt_append (pv 1) (pa_cons (pv 2) pa_nil)))))))
  (pss_one (ps_ret (pe_callTy call_tuple_of (by rfl) fx.b_tuple bb_tuple (pa_cons (pv 1) pa_nil)))))), go _ (?_ : wS _ _ ⟨[some (.val (.lst (ndL L))), none, none], none, 0⟩ _)⟩
  try dsimp only [L2.cxOf]
  refine wS_seq ?_
  repeat' walk_at "y"
  refine wS_seq ?_
  repeat' walk_at "y"
  refine ⟨fun i δ => ∃ o, δ = ⟨[some (.val (.lst (ndL L))), some (.own (ndL (one (L.take i)))), o], none, 0⟩, ⟨none, by rw [show one (L.take 0) = [] from by rw [List.take_zero, one], ndL]; rfl⟩, ?_, ?_⟩
  · rintro i d δ hdd ⟨o, rfl⟩
    obtain ⟨x, hx, rfl⟩ := ndL_get hdd
    have hi := (List.getElem?_eq_some_iff.mp hx).1
    have hm := List.mem_of_getElem? hx
    have hst : one (L.take (i + 1)) = oneS (one (L.take i)) x := by rw [List.take_add_one, hx, ← one_snoc]; rfl
    have hsub : ∀ n ∈ L.take i, n ∈ L := fun n h => List.mem_of_mem_take h
    generalize hF : one (L.take i) = F at *
    have vF : vaL F := by rw [← hF]; exact one_va ((vaL_iff _).mpr fun n h => (vaL_iff _).mp hv n (hsub n h))
    have kF : nkL F := by rw [← hF]; exact one_nk (nkL_iff.mpr fun n h => nkL_iff.mp hk n (hsub n h))
    have dF' : dpL F ≤ 30 := by rw [← hF]; exact one_dp (dpL_le.mpr fun n h => dpL_le.mp hd n (hsub n h))
    have lF : F.length ≤ 1000 := by
      rw [← hF]
      have := one_len (L.take i)
      rw [List.length_take] at this; omega
    have tF : txL F ≤ 100000 := by
      rw [← hF, one_tx]
      have : txL (L.take i) ≤ txL L := by
        have e : txL (L.take i ++ L.drop i) = txL (L.take i) + txL (L.drop i) := txL_app _ _
        rw [List.take_append_drop] at e
        omega
      omega
    have hlen : (ndL F).length < 16777216 := by rw [ndL_len]; omega
    repeat' walk_at "y"
    have skip : ∀ e : oneS F x = F ++ [x], ndL F ++ [ndN x] = ndL (one (L.take (i + 1))) := fun e => by rw [hst, e, ndL_app]; rfl
    have okF := ndL_ok F vF kF
    have oF : okD (.lst (ndL F)) := by rw [okD]; exact okF.1
    have deF : deD (.lst (ndL F)) ≤ 64 := by rw [deD]; omega
    by_cases ht : isText x = true
    · obtain ⟨u, rfl⟩ : ∃ u, x = .text u := by cases x <;> first | exact ⟨_, rfl⟩ | cases ht
      rw [nd_text]
      rcases List.eq_nil_or_concat F with hn | ⟨F', y, hy⟩
      · refine wS_if (wT_borrow (i := 1) rfl (wT_res false ?_ ?_))
        · repeat' walk_at "v"
          refine wR_neD oF (by rw [okD, okDs]; trivial) deF (by rw [deD, deDs]; omega) ?_
          rw [eqv_nil, hn, ndL]
          repeat' walk_at "v"
          exact ⟨rfl, rfl⟩
        · repeat' walk_at "v"
          refine ⟨hlen, some (.val (ndN (.text u))), ?_⟩
          rw [← skip (by rw [hn]; exact oneS_nil _), nd_text]; rfl
      · have hne : decide (ndL F = []) = false := decide_eq_false (by rw [hy, List.concat_eq_append, ndL_app]; simp [ndL])
        rw [List.concat_eq_append] at hy
        have hFl : (ndL F).length = F'.length + 1 := by rw [ndL_len, hy]; simp
        have hlast : (ndL F)[F'.length]? = some (ndN y) := by rw [ndL_map, List.getElem?_map, hy]; simp
        have hix : ixN (ndL F).length (-1) = some F'.length := by rw [ixN_last (by omega), hFl]; rfl
        by_cases hyt : isText y = true
        · obtain ⟨a, rfl⟩ : ∃ a, y = .text a := by cases y <;> first | exact ⟨_, rfl⟩ | cases hyt
          rw [nd_text] at hlast
          have ha : a.length ≤ 100000 := Nat.le_trans (txL_mem (L := F) (by rw [hy]; simp)) tF
          have hul : u.length ≤ 100000 := Nat.le_trans (txL_mem hm) htx
          refine wS_if (wT_borrow (i := 1) rfl (wT_res true ?_ ?_))
          · repeat' walk_at "v"
            refine wR_neD oF (by rw [okD, okDs]; trivial) deF (by rw [deD, deDs]; omega) ?_
            rw [eqv_nil, hne]
            repeat' walk_at "v"
            refine wR_ixLg hix hlast ?_
            repeat' walk_at "v"
            exact ⟨rfl, rfl⟩
          · refine ite_t ?_
            refine wS_setIx ?_
            refine wE_borrow (i := 1) rfl ?_
            repeat' walk_at "v"
            refine wR_ixLg hix hlast ?_
            repeat' walk_at "v"
            · omega
            refine ⟨noL_ok rfl, _, rfl, ?_⟩
            repeat' walk_at "v"
            refine ⟨-1, F'.length, rfl, hix, some (.val (ndN (.text u))), ?_⟩
            have e1 : oneS F (.text u) = F' ++ [.text (a ++ u)] := by
              rw [hy]; unfold oneS
              rw [List.getLast?_concat, List.dropLast_concat]
            have e2 : (ndL F).set F'.length (.tup [.str (cs "text"), .str (a ++ u)]) = ndL (one (L.take (i + 1))) := by
              rw [hst, e1, hy, ndL_app, ndL_app, List.set_append]
              simp [ndL, ndL_map, nd_text]
            rw [← e2, nd_text]; rfl
        · have hyt : isText y = false := by simpa using hyt
          obtain ⟨z, l, hD, hz⟩ := nd_notext hyt
          rw [hD] at hlast
          refine wS_if (wT_borrow (i := 1) rfl (wT_res false ?_ ?_))
          · repeat' walk_at "v"
            refine wR_neD oF (by rw [okD, okDs]; trivial) deF (by rw [deD, deDs]; omega) ?_
            rw [eqv_nil, hne]
            repeat' walk_at "v"
            refine wR_ixLg hix hlast ?_
            repeat' walk_at "v"
            exact ⟨decide_eq_false hz, rfl⟩
          · repeat' walk_at "v"
            refine ⟨hlen, some (.val (ndN (.text u))), ?_⟩
            have e1 : oneS F (.text u) = F ++ [.text u] := by
              rw [hy]; unfold oneS
              rw [List.getLast?_concat]
              cases y <;> first | rfl | cases hyt
            rw [← skip e1, nd_text]; rfl
    · have ht : isText x = false := by simpa using ht
      obtain ⟨z, l, hD, hz⟩ := nd_notext ht
      have e1 : oneS F x = F ++ [x] := by
        unfold oneS
        cases F.getLast? with
        | none => rfl
        | some q => cases q <;> cases x <;> first | rfl | cases ht
      rw [hD]
      refine wS_if (wT_borrow (i := 1) rfl (wT_res false ?_ ?_))
      · repeat' walk_at "v"
        rw [show decide (z = (Str.ofString "text").cps.toList) = false from decide_eq_false hz]
        repeat' walk_at "v"
        exact ⟨rfl, rfl⟩
      · repeat' walk_at "v"
        refine ⟨hlen, some (.val (ndN x)), ?_⟩
        rw [← skip e1, hD]; rfl
  · rintro δ ⟨o, rfl⟩
    refine wS_freeze (i := 1) rfl ?_
    repeat' walk_at "v"
    rw [ndL_len, List.take_length]
    exact rfl
end

/-! M8: sizes of generated forms. Plain Lean. -/
theorem pdL_app (b : List Node) : ∀ a : List Node, pdL (a ++ b) = pdL a + pdL b
  | [] => by simp [pdL]
  | n :: a => by rw [List.cons_append, pdL, pdL, pdL_app b a]; omega
theorem rbL_app (b : List Node) : ∀ a : List Node, rbL (a ++ b) = max (rbL a + pdL b) (rbL b)
  | [] => by have := pd_le_rbL b; simp [rbL]; omega
  | n :: a => by rw [List.cons_append, rbL, rbL, rbL_app b a, pdL_app]; omega
theorem gdL_iff : ∀ {L : List Node}, L.length ≤ 1001 → (gdL L ↔ ∀ n ∈ L, gdN n)
  | [], _ => by rw [gdL]; simp
  | n :: L, h => by
    have hl : L.length ≤ 1000 := by simpa using h
    rw [gdL, gdL_iff (by omega)]
    simp [hl]
theorem gdL_app {a b : List Node} (ha : gdL a) (hb : gdL b) (hl : a.length + b.length ≤ 1001) : gdL (a ++ b) := by
  have l1 := gdL_len ha
  have l2 := gdL_len hb
  rw [gdL_iff (by rw [List.length_append]; exact hl)]
  intro n hn
  rcases List.mem_append.mp hn with h | h
  · exact gdL_mem ha n h
  · exact gdL_mem hb n h
theorem dpL_app {a b : List Node} {d : Nat} (ha : dpL a ≤ d) (hb : dpL b ≤ d) : dpL (a ++ b) ≤ d := by
  rw [dpL_le] at *
  intro n hn
  rcases List.mem_append.mp hn with h | h
  · exact ha n h
  · exact hb n h
theorem nkL_app {a b : List Node} (ha : nkL a) (hb : nkL b) : nkL (a ++ b) := by
  rw [nkL_iff] at *
  intro n hn
  rcases List.mem_append.mp hn with h | h
  · exact ha n h
  · exact hb n h
theorem tkL_app {K : Nat} {a b : List Node} (ha : tkL K a) (hb : tkL K b) : tkL K (a ++ b) := by
  rw [tkL_iff] at *
  intro n hn
  rcases List.mem_append.mp hn with h | h
  · exact ha n h
  · exact hb n h
theorem pdL_sum : ∀ L : List Node, pdL L = (L.map pdN).sum
  | [] => rfl
  | n :: L => by rw [pdL, pdL_sum L]; simp
theorem one_pd (L : List Node) : pdL (one L) = pdL L := by
  rw [pdL_sum, pdL_sum]
  exact one_sum (fun a b => by simp [pdN]) L
theorem rb_text (a : T) (q : List Node) : rbL (.text a :: q) = rbL q := by
  have := pd_le_rbL q
  rw [rbL, rbN]; omega
theorem one_rb : ∀ L : List Node, rbL (one L) = rbL L
  | [] => by rw [one]
  | n :: L => by
    have ih := one_rb L
    by_cases h : isText n = true
    · obtain ⟨a, rfl⟩ : ∃ a, n = .text a := by cases n <;> first | exact ⟨_, rfl⟩ | cases h
      rw [rb_text]
      rcases one_text a L with ⟨b, r', e1, e2⟩ | ⟨_, e2⟩
      · rw [e2, rb_text, ← ih, e1, rb_text]
      · rw [e2, rb_text, ih]
    · have h : isText n = false := by simpa using h
      rw [one_node h, rbL, rbL, one_pd, ih]
theorem one_tk {K : Nat} {L : List Node} (h : tkL K L) : tkL K (one L) := by
  rw [tkL_iff] at *
  exact one_all (fun a b _ _ => by rw [tkN]; trivial) L h
theorem one_txt {L : List Node} {m : Nat} (h : ∀ t, .text t ∈ L → t ≠ [] ∧ allSG t = true) (hm : txL L ≤ m) : ∀ t, .text t ∈ one L → (t ≠ [] ∧ allSG t = true) ∧ t.length ≤ m := fun t ht => by
  have := one_all (P := fun n => match n with | .text t => t ≠ [] ∧ allSG t = true | _ => True) (fun a b ha hb => ⟨by simp [ha.1], allSG_app.mpr ⟨ha.2, hb.2⟩⟩) L (fun n hn => by
    cases n with
    | text t => exact h t hn
    | _ => trivial) _ ht
  exact ⟨this, Nat.le_trans (txL_mem ht) (by rw [one_tx]; exact hm)⟩
theorem one_nt : ∀ {L : List Node} {n : Node}, isText n = false → n ∈ one L → n ∈ L
  | [], n, _, h => by rw [one] at h; exact h
  | x :: L, n, hn, h => by
    by_cases hx : isText x = true
    · obtain ⟨a, rfl⟩ : ∃ a, x = .text a := by cases x <;> first | exact ⟨_, rfl⟩ | cases hx
      rcases one_text a L with ⟨b, r', e1, e2⟩ | ⟨_, e2⟩
      · rw [e2] at h
        rcases List.mem_cons.mp h with e | h
        · rw [e] at hn; cases hn
        · exact List.mem_cons_of_mem _ (one_nt hn (by rw [e1]; exact List.mem_cons_of_mem _ h))
      · rw [e2] at h
        rcases List.mem_cons.mp h with e | h
        · rw [e] at hn; cases hn
        · exact List.mem_cons_of_mem _ (one_nt hn h)
    · have hx : isText x = false := by simpa using hx
      rw [one_node hx] at h
      rcases List.mem_cons.mp h with e | h
      · rw [e]; exact List.mem_cons_self
      · exact List.mem_cons_of_mem _ (one_nt hn h)
theorem one_gd {L : List Node} (h : gdL L) (ht : txL L ≤ 100000) : gdL (one L) := by
  have hl := gdL_len h
  have hl2 := one_len L
  rw [gdL_iff (by omega)]
  intro n hn
  by_cases hx : isText n = true
  · obtain ⟨a, rfl⟩ : ∃ a, n = .text a := by cases n <;> first | exact ⟨_, rfl⟩ | cases hx
    have := one_txt (m := 100000) (fun t ht => by have := gdL_mem h _ ht; rw [gdN] at this; exact ⟨this.1, this.2.1⟩) ht a hn
    rw [gdN]; exact ⟨this.1.1, this.1.2, this.2⟩
  · exact gdL_mem h n (one_nt (by simpa using hx) hn)
/-! ### the bounds -/
mutual
def pP : Nat → Nat
  | 0 => 1
  | d + 1 => 1 + PB d
def PB : Nat → Nat
  | 0 => 4
  | d + 1 => 4 * (1 + PB d)
end
def RB : Nat → Nat
  | 0 => 5
  | d + 1 => (1 + RB d + 43 * PB d) + 4 * (1 + PB d)
def rP : Nat → Nat
  | 0 => 1
  | d + 1 => 1 + RB d + 43 * PB d
def Cn : Nat → Nat
  | 0 => 5
  | d + 1 => 1 + 4 * (2 + 2 * Cn d)
theorem PB_eq : ∀ d, PB d = 4 * pP d
  | 0 => rfl
  | d + 1 => by rw [PB, pP]
theorem RB_eq : ∀ d, RB d = rP d + 4 * pP d
  | 0 => rfl
  | d + 1 => by rw [RB, rP, pP]
/-- a list that `_law_nodes` gives, of i pieces -/
structure NdG (tidy : Bool) (dp pd rb i : Nat) (L : List Node) : Prop where
  gd : gdL L
  nk : nkL L
  dpb : dpL L ≤ dp
  len : L.length ≤ 2 * i
  pdb : pdL L ≤ i * pd
  rbb : rbL L ≤ rb + i * pd
  tx : txL L ≤ 4 * i
  tk : tkL 30 L
  td : tidy = true → TD L
theorem NdG.nil {tidy : Bool} {dp pd rb : Nat} : NdG tidy dp pd rb 0 [] where
  gd := by rw [gdL]; trivial
  nk := by rw [nkL]; trivial
  dpb := by rw [dpL]; omega
  len := by simp
  pdb := by rw [pdL]; omega
  rbb := by rw [rbL]; omega
  tx := by simp [txL]
  tk := by rw [tkL]; trivial
  td := fun _ => trivial
theorem NdG.app {tidy : Bool} {dp pd rb i : Nat} {L M : List Node} (h : NdG tidy dp pd rb i L) (g : PcG tidy dp pd rb M) (hi : i ≤ 100) : NdG tidy dp pd rb (i + 1) (L ++ M) where
  gd := gdL_app h.gd g.gd (by have := h.len; have := g.len; omega)
  nk := nkL_app h.nk g.nk
  dpb := dpL_app h.dpb g.dpb
  len := by rw [List.length_append]; have := h.len; have := g.len; omega
  pdb := by rw [pdL_app, Nat.add_mul, Nat.one_mul]; have := h.pdb; have := g.pdb; omega
  rbb := by
    rw [rbL_app, Nat.add_mul, Nat.one_mul]
    have := h.rbb; have := g.rbb; have := g.pdb
    omega
  tx := by rw [txL_app]; have := h.tx; have := g.tx; omega
  tk := tkL_app h.tk g.tk
  td := fun z => TD_append (h.td z) (g.td z)
theorem NdG.up {tidy : Bool} {dp pd rb i j : Nat} {L : List Node} (h : NdG tidy dp pd rb i L) (hij : i ≤ j) : NdG tidy dp pd rb j L where
  gd := h.gd
  nk := h.nk
  dpb := h.dpb
  len := by have := h.len; omega
  pdb := Nat.le_trans h.pdb (Nat.mul_le_mul_right _ hij)
  rbb := Nat.le_trans h.rbb (Nat.add_le_add_left (Nat.mul_le_mul_right _ hij) _)
  tx := by have := h.tx; omega
  tk := h.tk
  td := h.td
/-- a text as a piece -/
theorem PcG.text {tidy : Bool} {dp pd rb : Nat} {t : T} (h0 : t ≠ []) (hs : allSG t = true) (hl : t.length ≤ 3) : PcG tidy dp pd rb [.text t] where
  gd := by rw [gdL, gdL, gdN]; exact ⟨⟨h0, hs, by omega⟩, trivial, by simp⟩
  nk := by rw [nkL, nkL, nkN]; exact ⟨trivial, trivial⟩
  dpb := by rw [dpL, dpL, dpN]; simp
  len := by simp
  pdb := by rw [pdL, pdL, pdN]; simp
  rbb := by rw [rbL, rbL, rbN, pdL]; simp
  tx := by simp [txL, txN]; omega
  tk := by rw [tkL, tkL, tkN]; exact ⟨trivial, trivial⟩
  td := fun _ => TD_text.mpr ⟨⟨h0, hs⟩, trivial⟩
theorem PcG.up {tidy : Bool} {dp pd rb dp' pd' rb' : Nat} {L : List Node} (h : PcG tidy dp pd rb L) (h1 : dp ≤ dp') (h2 : pd ≤ pd') (h3 : rb ≤ rb') : PcG tidy dp' pd' rb' L :=
  ⟨h.gd, h.nk, Nat.le_trans h.dpb h1, h.len, Nat.le_trans h.pdb h2, Nat.le_trans h.rbb h3, h.tx, h.tk, h.td⟩
/-- an inner list as a body or a side -/
structure BdG (dp pd rb : Nat) (L : List Node) : Prop where
  gd : gdL L
  nk : nkL L
  dpb : dpL L ≤ dp
  pdb : pdL L ≤ pd
  rbb : rbL L ≤ rb
  tx : txL L ≤ 30
  tk : tkL 30 L
theorem NdG.body {tidy : Bool} {dp pd rb : Nat} {L : List Node} (h : NdG tidy dp pd rb 4 L) : BdG dp (4 * pd) (rb + 4 * pd) (one L) where
  gd := one_gd h.gd (by have := h.tx; omega)
  nk := one_nk h.nk
  dpb := one_dp h.dpb
  pdb := by rw [one_pd]; exact h.pdb
  rbb := by rw [one_rb]; exact h.rbb
  tx := by rw [one_tx]; have := h.tx; omega
  tk := one_tk h.tk
theorem NdG.bodyT {tidy : Bool} {dp pd rb c : Nat} {L : List Node} (h : NdG tidy dp pd rb 4 L) (hc : c ∈ SG) : BdG dp (4 * pd) (rb + 4 * pd) (one (.text [c] :: L)) where
  gd := one_gd (by rw [gdL, gdN]; exact ⟨⟨by simp, allSG_cons.mpr ⟨hc, rfl⟩, by simp⟩, h.gd, by have := h.len; omega⟩) (by
    have e : txL (.text [c] :: L) = 1 + txL L := by simp [txL, txN]
    have := h.tx; omega)
  nk := one_nk (by rw [nkL, nkN]; exact ⟨trivial, h.nk⟩)
  dpb := one_dp (by rw [dpL, dpN]; have := h.dpb; omega)
  pdb := by rw [one_pd, pdL, pdN]; have := h.pdb; omega
  rbb := by rw [one_rb, rb_text]; exact h.rbb
  tx := by
    rw [one_tx]
    have e : txL (.text [c] :: L) = 1 + txL L := by simp [txL, txN]
    have := h.tx; omega
  tk := one_tk (by rw [tkL, tkN]; exact ⟨trivial, h.tk⟩)
theorem BdG.nil {dp pd rb : Nat} : BdG dp pd rb [] where
  gd := by rw [gdL]; trivial
  nk := by rw [nkL]; trivial
  dpb := by rw [dpL]; omega
  pdb := by rw [pdL]; omega
  rbb := by rw [rbL]; omega
  tx := by simp [txL]
  tk := by rw [tkL]; trivial
theorem PcG.loop1 {d pd rb : Nat} {nm : T} {p : List T} {b : List Node} {btw : T} (hn : ∀ c ∈ nm, c < 1114112) (hp : pOk p) (h : BdG d pd rb b) (hs : allSG btw = true) (hl : btw.length ≤ 3) : PcG false (d + 1) (1 + pd) (1 + rb + 43 * pd) [.loop nm p b btw] where
  gd := by rw [gdL, gdL, gdN]; exact ⟨⟨h.gd, hs, by omega⟩, trivial, by simp⟩
  nk := by rw [nkL, nkL, nkN]; exact ⟨⟨hn, hp, h.nk⟩, trivial⟩
  dpb := by rw [dpL, dpL, dpN]; have := h.dpb; omega
  len := by simp
  pdb := by rw [pdL, pdL, pdN]; omega
  rbb := by rw [rbL, rbL, rbN, pdL]; have := h.rbb; have := h.pdb; omega
  tx := by simp [txL, txN]
  tk := by rw [tkL, tkL, tkN]; exact ⟨⟨h.tk, h.tx, by omega⟩, trivial⟩
  td := fun z => by cases z
theorem PcG.with {tidy : Bool} {d pd rb : Nat} {n : Node} {c : Nat} (h : PcG false d pd rb [n]) (hn : isText n = false) (hc : c ∈ SG) (ht : tidy = true → TD [n, .text [c]]) : PcG tidy d pd rb [n, .text [c]] where
  gd := by
    have := h.gd
    rw [gdL] at this
    rw [gdL, gdL, gdL, gdN]; exact ⟨this.1, ⟨⟨by simp, allSG_cons.mpr ⟨hc, rfl⟩, by simp⟩, trivial, by simp⟩, by simp⟩
  nk := by
    have := h.nk
    rw [nkL] at this
    rw [nkL, nkL, nkL, nkN]; exact ⟨this.1, trivial, trivial⟩
  dpb := by have := h.dpb; rw [dpL, dpL] at this; rw [dpL, dpL, dpL, dpN]; omega
  len := by simp
  pdb := by have := h.pdb; rw [pdL, pdL] at this; rw [pdL, pdL, pdL, pdN]; omega
  rbb := by have := h.rbb; rw [rbL, rbL, pdL] at this; rw [rbL, rb_text, rbL, pdL, pdL, pdN]; omega
  tx := by
    have e : txN n = 0 := by cases n <;> first | rfl | cases hn
    show ([n, .text [c]].map txN).sum ≤ 4
    rw [List.map_cons, List.sum_cons, e]; simp [txN]
  tk := by
    have := h.tk
    rw [tkL] at this
    rw [tkL, tkL, tkL, tkN]; exact ⟨this.1, trivial, trivial⟩
  td := ht
theorem PcG.choice1 {d pd rb : Nat} {p : List T} {y m : List Node} (hp : pOk p) (h : BdG d pd rb y) (g : BdG d pd rb m) : PcG false (d + 1) (1 + pd) (1 + rb + 43 * pd) [.choice p y m] where
  gd := by rw [gdL, gdL, gdN]; exact ⟨⟨h.gd, g.gd⟩, trivial, by simp⟩
  nk := by rw [nkL, nkL, nkN]; exact ⟨⟨hp, h.nk, g.nk⟩, trivial⟩
  dpb := by rw [dpL, dpL, dpN]; have := h.dpb; have := g.dpb; omega
  len := by simp
  pdb := by rw [pdL, pdL, pdN]; have := h.pdb; have := g.pdb; omega
  rbb := by rw [rbL, rbL, rbN, pdL]; have := h.rbb; have := g.rbb; omega
  tx := by simp [txL, txN]
  tk := by rw [tkL, tkL, tkN]; exact ⟨⟨⟨h.tk, h.tx⟩, ⟨g.tk, g.tx⟩⟩, trivial⟩
  td := fun z => by cases z

/-! W19: loops. -/
abbrev s_l_loop : Stmt := top 68
abbrev N_l_loop : List Str := ["_law_cells", "_law_spot", "_law_at", "_law_path", "_law_kind", "_law_deep", "_law_n", "_law_scope_here", "_law_names_here", "_law_tidy", "_law_name", "_law_inner", "_law_one_here", "_law_nodes_here", "_law_star", "_law_close", "_law_other", "_law_loop_here"]
theorem sc_l_loop : FnScope N_l_loop ["_law_cells", "_law_spot", "_law_at", "_law_path", "_law_kind", "_law_deep"] (defScope s_l_loop) := ⟨rfl, rfl, rfl, by decide +kernel, rfl, by decide +kernel, by decide +kernel⟩
abbrev atD (sc : List (List T × Nat)) (nm : List T) (tidy : Bool) : D := .tup [scD sc, strsD nm, .bl tidy]
structure AtOk (d : Nat) (sc : List (List T × Nat)) (nm : List T) : Prop where
  all : ∀ e ∈ sc, okE e
  len : sc.length + 5 * d ≤ 100
  nm : nmOk nm
structure GA where
  cells : List Int
  sc : List (List T × Nat)
  nm : List T
  tidy : Bool
  path : List T
  kind : Nat
def spK (a : List Int) (k : Int) (n : Nat) : Prop := a.length ≤ 1000 ∧ 0 ≤ k ∧ k + (n : Int) ≤ 100000000
def cNds (d : Nat) : CtB GA := { args := fun s a => [intsD a.cells, .adr s, atD a.sc a.nm a.tidy, .int d], pre := fun a k => spK a.cells k (Cn d) ∧ AtOk d a.sc a.nm, post := fun a k v k' => k ≤ k' ∧ k' ≤ k + (Cn d : Int) ∧ ∃ L, v = .lst (ndL L) ∧ NdG a.tidy d (pP d) (rP d) 4 L }
/-- deep one more than d -/
def cLop (d : Nat) : CtB GA := { args := fun s a => [intsD a.cells, .adr s, atD a.sc a.nm a.tidy, pthD a.path, .str [a.kind], .int ((d : Int) + 1)], pre := fun a k => spK a.cells k (1 + Cn d) ∧ AtOk (d + 1) a.sc a.nm ∧ pOk a.path, post := fun a k v k' => k ≤ k' ∧ k' ≤ k + ((1 + Cn d : Nat) : Int) ∧ ∃ L, v = .lst (ndL L) ∧ PcG a.tidy (d + 1) (pP (d + 1)) (rP (d + 1)) L }
def cCho (d : Nat) : CtB GA := { args := fun s a => [intsD a.cells, .adr s, atD a.sc a.nm a.tidy, pthD a.path, .int ((d : Int) + 1)], pre := fun a k => spK a.cells k (1 + 2 * Cn d) ∧ AtOk (d + 1) a.sc a.nm ∧ pOk a.path, post := fun a k v k' => k ≤ k' ∧ k' ≤ k + ((1 + 2 * Cn d : Nat) : Int) ∧ ∃ L, v = .lst (ndL L) ∧ PcG a.tidy (d + 1) (pP (d + 1)) (rP (d + 1)) L }
def nmB (name : T) : D → Bool
  | .tup (.tup (.str t :: _) :: _) => !decide (t = name)
  | _ => false
theorem en_cons {e : List T × Nat} (h : okE e) : ∃ t r, e.1 = t :: r ∧ enD e = .tup [.tup (.str t :: r.map D.str), .str [e.2]] := by
  obtain ⟨p, c⟩ := e
  obtain ⟨t, r, rfl⟩ := List.exists_cons_of_ne_nil h.1.1
  exact ⟨t, r, rfl, rfl⟩
theorem sc_get {sc : List (List T × Nat)} {i : Nat} {d : D} (h : (sc.map enD)[i]? = some d) : ∃ e, e ∈ sc ∧ sc[i]? = some e ∧ d = enD e := by
  rw [List.getElem?_map] at h
  obtain ⟨e, he, rfl⟩ := Option.map_eq_some_iff.mp h
  exact ⟨e, List.mem_of_getElem? he, he, rfl⟩
theorem SG_nd : SG.Nodup := by decide
theorem SG_inj {i j c : Nat} (h : SG[i]? = some c) (g : SG[j]? = some c) : i = j := by
  obtain ⟨h1, h2⟩ := List.getElem?_eq_some_iff.mp h
  obtain ⟨g1, g2⟩ := List.getElem?_eq_some_iff.mp g
  exact (List.getElem_inj SG_nd).mp (h2.trans g2.symm)
/-- the sign at a place of the marks -/
theorem sgn {z : Int} (hz : 0 ≤ z) : ∃ (i c : Nat), z % 95 = (i : Int) ∧ SG[i]? = some c ∧ c ∈ SG := by
  obtain ⟨i, h1, h2⟩ := mod_nat (z := z) (m := 95) hz (by decide)
  obtain ⟨c, hc, hS⟩ := SG_get h2
  exact ⟨i, c, h1, hc, hS⟩
theorem sg1 {c : Nat} (h : c ∈ SG) : allSG [c] = true := allSG_cons.mpr ⟨h, rfl⟩
section
variable {P : Program} {w : World} {K : PySem.W.Frag} {mg : Str → Option Value} {base : Heap} {f : Addr} {fd : FuncData} {wc : Way → Addr} {nf : Addr} {k : Nat}
theorem ok_l_loop {d : Nat} (hd20 : d ≤ 20) (fx : Fx K mg wc nf) (F : FnP K "_law_loop" "_law_loop" s_l_loop f fd) (Gc : Fn P w K mg base "_law_cell" ["_law_cells", "_law_spot"] k (spB K wc cCell)) (Gr : Fn P w K mg base "_law_row" ["_law_path", "_law_names_here"] k (spA K wc nf cRow))
    (Gn : Fn P w K mg base "_law_nodes" ["_law_cells", "_law_spot", "_law_at", "_law_deep"] k (spB K wc (cNds d))) (Gm : Fn P w K mg base "_law_marks" [] k (spA K wc nf cMarks)) (Go : Fn P w K mg base "_law_one" ["_law_nodes_here"] k (spA K wc nf cOne)) :
    FnOk P w K mg base (L2.CX P w) (k + 1) f fd ["_law_cells", "_law_spot", "_law_at", "_law_path", "_law_kind", "_law_deep"] (spB K wc (cLop d)) := by
  refine F.ok sc_l_loop (spB_len fun _ _ _ _ => rfl) fun cdv A outer s H vs Q E hr h => ?_
  obtain ⟨a, go⟩ := pure_B (nf := nf) (N := N_l_loop) (fun _ _ _ _ => by simp [cLop]) h
  obtain ⟨cells, sc, nm, tidy, p, kind⟩ := a
  refine ⟨_, (pss_cons (ps_set (i := 6) sc_l_loop.nd rfl (Or.inl rfl) (pe_fn Gc hr (by omega) rfl passL (pa_cons (pv 0) (pa_cons (pv 1) pa_nil))))
  (pss_cons (ps_asg (pv 2) (pg_tup (by rfl) (pgs_cons (pg_name (i := 7) sc_l_loop.nd rfl (Or.inl rfl)) (pgs_cons (pg_name (i := 8) sc_l_loop.nd rfl (Or.inl rfl)) (pgs_cons (pg_name (i := 9) sc_l_loop.nd rfl (Or.inl rfl)) pgs_nil)))))
  (pss_cons (ps_set (i := 10) sc_l_loop.nd rfl (Or.inr rfl) (pe_ix ix_list (pv 8) (pe_op op_mod (pv 6) pe_int) (fun _ _ => rfl)))
  (pss_cons (ps_setLc (i := 11) (own := [("_law_one_here", 12)]) (by rfl) sc_l_loop.nd rfl rfl (sw_true rfl rfl rfl (by decide +kernel)) (pi_list (pv 7)) (blkOk_by (own := [("_law_one_here", 12)]) (N := N_l_loop) (sc := defScope s_l_loop) (by decide +kernel)) (fun _ _ _ _ _ => (pg_name (i := 12) sc_l_loop.nd rfl (Or.inl rfl))) (fun _ _ _ _ _ => (pts_one (pt_cmpR op_ne (pe_ix (show IxR _ (rIxT K) from ix_tup) (pe_ix (show IxR _ (rIxT K) from ix_tup) (pv 12) pe_int (fun _ _ => rfl)) pe_int (fun _ _ => rfl)) (pv 10) (nomark _)))) (fun _ _ _ _ _ => (pv 12)))
  (pss_cons (ps_if (pt_cmpR op_eq (pv 4) pe_str (nomark _))
  (pss_one (ps_set (i := 11) sc_l_loop.nd rfl (Or.inl rfl) (pe_op op_cat (pe_op op_cat (pv 11) (pe_fn Gr hr (by omega) rfl passL (pa_cons (pe_tup (pa_cons (pv 10) pa_nil)) (pa_cons (pv 8) pa_nil)))) (pe_lst (pa_cons (pe_tup (pa_cons (pe_tup (pa_cons (pv 10) (pa_cons (pe_ix ix_list (pv 8) pe_int (fun _ _ => rfl)) pa_nil))) (pa_cons pe_str pa_nil))) pa_nil)))))
  (pss_one (ps_expr (pe_bm PySem.F.plainAttrs_list PySem.F.slot_list_append PySem.F.type_list_append mt_append (pv 11) (pa_cons (pe_tup (pa_cons (pe_tup (pa_cons (pv 10) pa_nil)) (pa_cons pe_str pa_nil))) pa_nil)))))
  (pss_cons (ps_set (i := 13) sc_l_loop.nd rfl (Or.inl rfl) (pe_fn Gn hr (by omega) rfl passL (pa_cons (pv 0) (pa_cons (pv 1) (pa_cons (pe_tup (pa_cons (pv 11) (pa_cons (pv 8) (pa_cons (pv 9) pa_nil)))) (pa_cons (pe_op op_sub (pv 5) pe_int) pa_nil))))))
  (pss_cons (ps_set (i := 14) sc_l_loop.nd rfl (Or.inl rfl) (pe_ix ix_str (pe_fn0 Gm hr (by omega) rfl passL) (pe_op op_mod (pe_op op_fdiv (pv 6) pe_int) pe_int) (fun _ _ => rfl)))
  (pss_cons (ps_set (i := 15) sc_l_loop.nd rfl (Or.inl rfl) (pe_op op_add pe_int (pe_op op_mod (pe_op op_fdiv (pv 6) pe_int) pe_int)))
  (pss_cons (ps_set (i := 16) sc_l_loop.nd rfl (Or.inl rfl) (pe_ix ix_str (pe_fn0 Gm hr (by omega) rfl passL) (pe_op op_mod (pe_op op_add (pe_op op_add (pe_op op_fdiv (pv 6) pe_int) pe_int) (pe_op op_mod (pv 15) pe_int)) pe_int) (fun _ _ => rfl)))
  (pss_cons (ps_if (pt_val (pv 9))
  (pss_one (ps_set (i := 13) sc_l_loop.nd rfl (Or.inl rfl) (pe_op op_cat (pe_lst (pa_cons (pe_tup (pa_cons pe_str (pa_cons (pv 14) pa_nil))) pa_nil)) (pv 13))))
  pss_nil)
  (pss_cons (ps_set (i := 17) sc_l_loop.nd rfl (Or.inl rfl) (pe_tup (pa_cons pe_str (pa_cons (pv 10) (pa_cons (pv 3) (pa_cons (pe_fn Go hr (by omega) rfl passL (pa_cons (pv 13) pa_nil)) (pa_cons (pe_ix ix_list (pe_lst (pa_cons pe_str (pa_cons (pe_op op_add_str (pv 14) pe_str) (pa_cons (pe_op op_add_str (pv 16) (pv 14)) (pa_cons (pv 16) pa_nil))))) (pe_op op_mod (pe_op op_fdiv (pv 6) pe_int) pe_int) (fun _ _ => rfl)) pa_nil)))))))
  (pss_cons (ps_if (PW.pt (pw_and (pt_not (pt_val (pv 9))) (pw_and1 (pt_cmpR op_eq (pe_op op_mod (pe_op op_fdiv (pv 6) pe_int) pe_int) pe_int (nomark _)))))
  (pss_one (ps_ret (pe_lst (pa_cons (pv 17) pa_nil))))
  pss_nil)
  (pss_one (ps_ret (pe_lst (pa_cons (pv 17) (pa_cons (pe_tup (pa_cons pe_str (pa_cons (pe_ix ix_str (pe_fn0 Gm hr (by omega) rfl passL) (pe_op op_mod (pe_op op_add (pe_op op_fdiv (pv 6) pe_int) (pv 15)) pe_int) (fun _ _ => rfl)) pa_nil))) pa_nil))))))))))))))))), go _ fun sp kk pre => (?_ : wS _ _ ⟨[some (.val (intsD cells)), some (.val (.adr sp)), some (.val (atD sc nm tidy)), some (.val (pthD p)), some (.val (.str [kind])), some (.val (.int ((d : Int) + 1))), none, none, none, none, none, none, none, none, none, none, none, none], some sp, kk⟩ _)⟩
  obtain ⟨⟨hcl, hk0, hk1⟩, hat, hp⟩ : spK cells kk (1 + Cn d) ∧ AtOk (d + 1) sc nm ∧ pOk p := pre
  try dsimp only [L2.cxOf]
  refine wS_seq ?_
  repeat' walk_at "y"
  refine ⟨cells, sp, ⟨hcl, hk0, by omega⟩, rfl, rfl, fun v k' hv => ?_⟩
  obtain ⟨rfl, n, rfl⟩ : k' = kk + 1 ∧ ∃ z : Nat, v = .int z := hv
  repeat' walk_at "y"
  refine wS_seq ?_
  repeat' walk_at "y"
  refine wG_tup (is := [7, 8, 9]) rfl rfl ?_
  dsimp only [puts]
  refine wS_seq ?_
  repeat' walk_at "y"
  obtain ⟨j12, hj1, hj2⟩ := mod_nat (z := (n : Int)) (m := 12) (by omega) (by decide)
  obtain ⟨name, hname, hno⟩ := nm_get hat.nm hj2
  refine wR_ixL (n := j12) hj1 (by rw [List.getElem?_map, hname]; rfl) ?_
  repeat' walk_at "y"
  refine wS_seq (wS_setOwn (wN_lcF (nmB name) (gw_name (by simp)) ?_))
  repeat' walk_at "y"
  refine ⟨by have := hat.len; rw [List.length_map]; omega, fun i d hd => ?_, ?_⟩
  · obtain ⟨e, he, -, rfl⟩ := sc_get hd
    obtain ⟨t, r, e1, e2⟩ := en_cons (hat.all e he)
    rw [e2]
    repeat' walk_at "y"
    refine ⟨rfl, rfl, fun _ => ?_⟩
    repeat' walk_at "y"
    exact ⟨rfl, rfl⟩
  have hflt : (sc.map enD).filter (nmB name) = (sc.filter fun e => nmB name (enD e)).map enD := by rw [List.filter_map]; rfl
  rw [hflt]
  have hsub : ∀ e ∈ sc.filter (fun e => nmB name (enD e)), okE e := fun e he => hat.all e (List.mem_filter.mp he).1
  have hflen : (sc.filter fun e => nmB name (enD e)).length ≤ sc.length := List.length_filter_le _ _
  generalize sc.filter (fun e => nmB name (enD e)) = sf at *
  have hal := hat.len
  obtain ⟨n7, hn7, hn7o⟩ := nm_get hat.nm (show 7 < 12 by omega)
  refine wS_cut (I := fun δ => ∃ sc' o, AtOk d sc' nm ∧ δ = ⟨[some (.val (intsD cells)), some (.val (.adr sp)), some (.val (atD sc nm tidy)), some (.val (pthD p)), some (.val (.str [kind])), some (.val (.int ((d : Int) + 1))), some (.val (.int n)), some (.val (scD sc)), some (.val (strsD nm)), some (.val (.bl tidy)), some (.val (.str name)), some (.own (sc'.map enD)), o, none, none, none, none, none], some sp, kk + 1⟩) ?_ ?_
  · repeat' walk_at "v"
    refine ite_b (fun hb => ?_) fun hb => ?_
    · refine wS_setOwn (wN_cat (wE_new (wN_catOwn rfl ?_)))
      repeat' walk_at "v"
      refine ⟨([name], nm), ⟨by simp, fun u hu => by rw [List.mem_singleton.mp hu]; exact hno, hat.nm⟩, rfl, fun v hv => ?_, fun _ => id⟩
      obtain ⟨es, rfl, hes, hel⟩ : ∃ es, v = scD es ∧ (∀ e ∈ es, okE e) ∧ es.length = 4 := hv
      refine ⟨_, rfl, by simp; omega, ?_⟩
      repeat' walk_at "v"
      refine wR_ixL (n := 7) rfl (by rw [List.getElem?_map, hn7]; rfl) ?_
      repeat' walk_at "v"
      refine ⟨_, _, rfl, rfl, by simp; omega, ?_⟩
      refine ⟨sf ++ es ++ [([name, n7], 109)], none, ⟨fun e he => ?_, by simp; omega, hat.nm⟩, by simp [DSt.put, enD, pthD]; rfl⟩
      rcases List.mem_append.mp he with he | he
      · rcases List.mem_append.mp he with he | he
        · exact hsub e he
        · exact hes e he
      · rw [List.mem_singleton.mp he]
        refine ⟨⟨by simp, by simp, fun u hu => ?_⟩, by simp⟩
        simp at hu
        rcases hu with rfl | rfl
        · exact hno
        · exact hn7o
    · repeat' walk_at "v"
      refine ⟨by rw [List.length_map]; omega, ?_⟩
      refine ⟨sf ++ [([name], 119)], none, ⟨fun e he => ?_, by simp; omega, hat.nm⟩, by simp [DSt.put, enD, pthD]; rfl⟩
      rcases List.mem_append.mp he with he | he
      · exact hsub e he
      · rw [List.mem_singleton.mp he]
        exact ⟨⟨by simp, by simp, fun u hu => by rw [List.mem_singleton.mp hu]; exact hno⟩, by simp⟩
  · rintro δ ⟨sc', o, hat', rfl⟩
    refine wS_freeze (i := 11) rfl ?_
    refine wS_seq ?_
    repeat' walk_at "y"
    refine ⟨⟨cells, sc', nm, tidy, p, kind⟩, sp, ⟨⟨hcl, (by show 0 ≤ kk + 1; omega), (by show kk + 1 + (Cn d : Int) ≤ 100000000; omega)⟩, hat'⟩, rfl, ?_, fun v k' hv => ?_⟩
    · show [intsD cells, D.adr sp, atD sc' nm tidy, D.int ((d : Int) + 1 - 1)] = [intsD cells, D.adr sp, atD sc' nm tidy, D.int (d : Int)]
      rw [show (d : Int) + 1 - 1 = d by omega]
    obtain ⟨hk2, hk3, L, rfl, hL⟩ : kk + 1 ≤ k' ∧ k' ≤ kk + 1 + (Cn d : Int) ∧ ∃ L, v = .lst (ndL L) ∧ NdG tidy d (pP d) (rP d) 4 L := hv
    obtain ⟨i1, star, h11, h12, h13⟩ := sgn (z := (n : Int) / 12) (by omega)
    obtain ⟨c94, h94, h94'⟩ := mod_nat (z := (n : Int) / 1140) (m := 94) (by omega) (by decide)
    have h94 : (n : Int) / 1140 % 94 = c94 := h94
    obtain ⟨i2, other, h21, h22, h23⟩ := sgn (z := (n : Int) / 12 + 1 + (1 + (c94 : Int)) % 94) (by omega)
    obtain ⟨i3, close, h31, h32, h33⟩ := sgn (z := (n : Int) / 12 + (1 + (c94 : Int))) (by omega)
    have n13 : star ≠ close := fun z => by
      subst z
      have := SG_inj h12 h32
      omega
    have n23 : other ≠ close := fun z => by
      subst z
      have h5 := SG_inj h22 h32
      have h6 : (1 + (c94 : Int)) % 94 = if c94 = 93 then 0 else 1 + (c94 : Int) := by split <;> omega
      rw [h6] at h21
      split at h21 <;> omega
    have hSGl : SG.length ≤ 16777216 := by rw [SG_len]; decide
    refine wS_seq ?_
    repeat' walk_at "y"
    refine ⟨(), trivial, rfl, fun dv hdv => ?_, fun _ => id⟩
    rw [hdv]
    repeat' walk_at "y"
    refine wR_ixS (n := i1) hSGl h11 h12 ?_
    repeat' walk_at "y"
    refine wS_seq ?_
    repeat' walk_at "y"
    rw [h94]
    refine wS_seq ?_
    repeat' walk_at "y"
    refine ⟨(), trivial, rfl, fun dv hdv => ?_, fun _ => id⟩
    rw [hdv]
    repeat' walk_at "y"
    refine wR_ixS (n := i2) hSGl h21 h22 ?_
    repeat' walk_at "y"
    obtain ⟨j4, e4, l4⟩ := mod_nat (z := (n : Int) / 7) (m := 4) (by omega) (by decide)
    have hbtw : ∃ btw : T, [D.str (Str.ofString "").cps.toList, D.str ([star] ++ (Str.ofString ", ").cps.toList), D.str ([other] ++ [star]), D.str [other]][j4]? = some (.str btw) ∧ allSG btw = true ∧ btw.length ≤ 3 ∧ ∀ d r, btw = d :: r → d ≠ close := by
      rcases j4 with _ | _ | _ | _ | j4
      · exact ⟨[], rfl, rfl, by simp, fun d r e => by cases e⟩
      · exact ⟨[star, 44, 32], rfl, by rw [allSG_cons]; exact ⟨h13, by decide⟩, by simp, fun d r e => by cases e; exact n13⟩
      · exact ⟨[other, star], rfl, by rw [allSG_cons]; exact ⟨h23, sg1 h13⟩, by simp, fun d r e => by cases e; exact n23⟩
      · exact ⟨[other], rfl, sg1 h23, by simp, fun d r e => by cases e; exact n23⟩
      · omega
    obtain ⟨btw, hbt, hbS, hbl, hbc⟩ := hbtw
    -- the body
    let B : List Node := if tidy then .text [star] :: L else L
    have hB : vaL B ∧ nkL B ∧ dpL B ≤ 30 ∧ B.length ≤ 1000 ∧ txL B ≤ 100000 ∧ BdG d (4 * pP d) (rP d + 4 * pP d) (one B) := by
      have hlL := hL.len
      have htL := hL.tx
      have hdL := hL.dpb
      cases tidy with
      | true =>
        refine ⟨?_, ?_, ?_, ?_, ?_, hL.bodyT h13⟩
        · show vaL (.text [star] :: L)
          rw [vaL, vaN]; exact ⟨⟨by simp, sg1 h13⟩, gdL_va L hL.gd⟩
        · show nkL (.text [star] :: L)
          rw [nkL, nkN]; exact ⟨trivial, hL.nk⟩
        · show dpL (.text [star] :: L) ≤ 30
          rw [dpL, dpN]; omega
        · show (Node.text [star] :: L).length ≤ 1000
          rw [List.length_cons]; omega
        · show txL (.text [star] :: L) ≤ 100000
          have e : txL (.text [star] :: L) = 1 + txL L := by simp [txL, txN]
          omega
      | false => exact ⟨gdL_va L hL.gd, hL.nk, by show dpL L ≤ 30; omega, by show L.length ≤ 1000; omega, by show txL L ≤ 100000; omega, hL.body⟩
    obtain ⟨b1, b2, b3, b4, b5, b6⟩ := hB
    refine wS_cut (I := fun δ => δ = ⟨[some (.val (intsD cells)), some (.val (.adr sp)), some (.val (atD sc nm tidy)), some (.val (pthD p)), some (.val (.str [kind])), some (.val (.int ((d : Int) + 1))), some (.val (.int n)), some (.val (scD sc)), some (.val (strsD nm)), some (.val (.bl tidy)), some (.val (.str name)), some (.val (scD sc')), o, some (.val (.lst (ndL B))), some (.val (.str [star])), some (.val (.int (1 + (c94 : Int)))), some (.val (.str [other])), none], some sp, k'⟩) ?_ ?_
    · repeat' walk_at "v"
      cases tidy with
      | true =>
        repeat' walk_at "v"
        refine ⟨_, _, rfl, rfl, by have := hL.len; simp [ndL_len]; omega, ?_⟩
        show _ = _
        have e : [D.tup [.str (Str.ofString "text").cps.toList, .str [star]]] ++ ndL L = ndL B := by
          show _ = ndL (.text [star] :: L)
          rw [ndL, nd_text]; rfl
        rw [e]; rfl
      | false =>
        repeat' walk_at "v"
        exact rfl
    · rintro δ rfl
      refine wS_seq ?_
      repeat' walk_at "y"
      refine ⟨B, ⟨b1, b2, b3, b4, b5⟩, rfl, fun v hv => ?_, fun _ => id⟩
      have hv : v = FD (one B) := hv
      rw [hv]
      repeat' walk_at "y"
      · show [star].length + 2 ≤ 16777216
        simp
      · simp
      refine wR_ixL (n := j4) e4 hbt ?_
      repeat' walk_at "y"
      have e0 : D.tup [.str (Str.ofString "loop").cps.toList, .str name, pthD p, FD (one B), .str btw] = ndN (.loop name p (one B) btw) := by rw [ndN]
      rw [e0]
      have pc := PcG.loop1 hno hp b6 hbS hbl
      have epP : pP (d + 1) = 1 + 4 * pP d := by rw [pP, PB_eq]
      have erP : rP (d + 1) = 1 + (rP d + 4 * pP d) + 43 * (4 * pP d) := by rw [rP, PB_eq, RB_eq]
      rw [← epP, ← erP] at pc
      have last : (cLop d).post ⟨cells, sc, nm, tidy, p, kind⟩ kk (.lst [ndN (.loop name p (one B) btw), .tup [.str (cs "text"), .str [close]]]) k' := by
        refine ⟨by omega, by omega, [.loop name p (one B) btw, .text [close]], by rw [ndL, ndL, ndL, nd_text], ?_⟩
        refine PcG.with pc rfl h33 fun ht => ?_
        have ht : tidy = true := ht
        subst ht
        exact td_loop h13 h33 hbS n13 hbc (hL.td rfl)
      refine wS_cut (I := fun δ => δ = ⟨[some (.val (intsD cells)), some (.val (.adr sp)), some (.val (atD sc nm tidy)), some (.val (pthD p)), some (.val (.str [kind])), some (.val (.int ((d : Int) + 1))), some (.val (.int n)), some (.val (scD sc)), some (.val (strsD nm)), some (.val (.bl tidy)), some (.val (.str name)), some (.val (scD sc')), o, some (.val (.lst (ndL B))), some (.val (.str [star])), some (.val (.int (1 + (c94 : Int)))), some (.val (.str [other])), some (.val (ndN (.loop name p (one B) btw)))], some sp, k'⟩) ?_ ?_
      · repeat' walk_at "v"
        cases tidy with
        | true =>
          repeat' walk_at "v"
          exact rfl
        | false =>
          repeat' walk_at "v"
          refine ite_b (fun hb => ?_) fun hb => ?_
          · repeat' walk_at "v"
            exact ⟨(by show kk ≤ k'; omega), (by show k' ≤ kk + ((1 + Cn d : Nat) : Int); omega), [.loop name p (one B) btw], by rw [ndL, ndL], pc⟩
          · repeat' walk_at "v"
            exact rfl
      · rintro δ rfl
        repeat' walk_at "v"
        refine ⟨(), trivial, rfl, fun dv hdv => ?_, fun _ => id⟩
        rw [hdv]
        repeat' walk_at "v"
        refine wR_ixS (n := i3) hSGl h31 h32 ?_
        repeat' walk_at "v"
        exact last
end

/-! W20: choices. -/
abbrev s_l_choice : Stmt := top 69
abbrev N_l_choice : List Str := ["_law_cells", "_law_spot", "_law_at", "_law_path", "_law_deep", "_law_n", "_law_mark", "_law_sides", "_law_k", "_law_choice_here"]
theorem sc_l_choice : FnScope N_l_choice ["_law_cells", "_law_spot", "_law_at", "_law_path", "_law_deep"] (defScope s_l_choice) := ⟨rfl, rfl, rfl, by decide +kernel, rfl, by decide +kernel, by decide +kernel⟩
def OneP (d : Nat) (B : List Node) : Prop := (vaL B ∧ nkL B ∧ dpL B ≤ 30 ∧ B.length ≤ 1000 ∧ txL B ≤ 100000) ∧ BdG d (4 * pP d) (rP d + 4 * pP d) (one B)
theorem NdG.oneP {tidy : Bool} {d : Nat} {L : List Node} (hd : d ≤ 20) (hL : NdG tidy d (pP d) (rP d) 4 L) : OneP d L := by
  have hlL := hL.len
  have htL := hL.tx
  have hdL := hL.dpb
  exact ⟨⟨gdL_va L hL.gd, hL.nk, by omega, by omega, by omega⟩, hL.body⟩
theorem NdG.onePT {tidy : Bool} {d c : Nat} {L : List Node} (hd : d ≤ 20) (hL : NdG tidy d (pP d) (rP d) 4 L) (hc : c ∈ SG) : OneP d (.text [c] :: L) := by
  have hlL := hL.len
  have htL := hL.tx
  have hdL := hL.dpb
  refine ⟨⟨?_, ?_, ?_, ?_, ?_⟩, hL.bodyT hc⟩
  · rw [vaL, vaN]; exact ⟨⟨by simp, sg1 hc⟩, gdL_va L hL.gd⟩
  · rw [nkL, nkN]; exact ⟨trivial, hL.nk⟩
  · rw [dpL, dpN]; omega
  · rw [List.length_cons]; omega
  · have e : txL (.text [c] :: L) = 1 + txL L := by simp [txL, txN]
    omega
theorem OneP.nil {d : Nat} : OneP d [] :=
  ⟨⟨by rw [vaL]; trivial, by rw [nkL]; trivial, by rw [dpL]; omega, by simp, by simp [txL]⟩, by rw [one]; exact BdG.nil⟩
def SdP (tidy : Bool) (m1 m2 : Nat) (A B : List Node) : Prop := tidy = true → ∃ L1 L2, one A = sideOf m1 L1 ∧ one B = sideOf m2 L2 ∧ (∀ L, L1 = some L → TD L) ∧ (∀ L, L2 = some L → TD L) ∧ (L1 ≠ none ∨ L2 ≠ none)
def lsD (L : List Node) : D := .lst (ndL L)
section
variable {P : Program} {w : World} {K : PySem.W.Frag} {mg : Str → Option Value} {base : Heap} {f : Addr} {fd : FuncData} {wc : Way → Addr} {nf : Addr} {k : Nat}
theorem ok_l_choice {d : Nat} (hd20 : d ≤ 20) (fx : Fx K mg wc nf) (F : FnP K "_law_choice" "_law_choice" s_l_choice f fd) (Gc : Fn P w K mg base "_law_cell" ["_law_cells", "_law_spot"] k (spB K wc cCell))
    (Gn : Fn P w K mg base "_law_nodes" ["_law_cells", "_law_spot", "_law_at", "_law_deep"] k (spB K wc (cNds d))) (Gm : Fn P w K mg base "_law_marks" [] k (spA K wc nf cMarks)) (Go : Fn P w K mg base "_law_one" ["_law_nodes_here"] k (spA K wc nf cOne)) :
    FnOk P w K mg base (L2.CX P w) (k + 1) f fd ["_law_cells", "_law_spot", "_law_at", "_law_path", "_law_deep"] (spB K wc (cCho d)) := by
  refine F.ok sc_l_choice (spB_len fun _ _ _ _ => rfl) fun cdv A outer s H vs Q E hr h => ?_
  obtain ⟨a, go⟩ := pure_B (nf := nf) (N := N_l_choice) (fun _ _ _ _ => by simp [cCho]) h
  obtain ⟨cells, sc, nm, tidy, p, kind⟩ := a
  refine ⟨_, (pss_cons (ps_set (i := 5) sc_l_choice.nd rfl (Or.inl rfl) (pe_fn Gc hr (by omega) rfl passL (pa_cons (pv 0) (pa_cons (pv 1) pa_nil))))
  (pss_cons (ps_set (i := 6) sc_l_choice.nd rfl (Or.inr rfl) (pe_op op_mod (pv 5) pe_int))
  (pss_cons (ps_set (i := 7) sc_l_choice.nd rfl (Or.inr rfl) (pe_lc (own := [("_law_k", 8)]) (by rfl) sc_l_choice.nd (pi_range1 (by rfl) fx.b_range (pa_cons pe_int pa_nil)) (blkOk_by (own := [("_law_k", 8)]) (N := N_l_choice) (sc := defScope s_l_choice) (by decide +kernel)) (fun _ _ _ _ _ => (pg_name (i := 8) sc_l_choice.nd rfl (Or.inl rfl))) (fun _ _ _ _ _ => pts_nil) (fun _ _ _ _ _ => (pe_fn Gn hr (by omega) rfl passL (pa_cons (pv 0) (pa_cons (pv 1) (pa_cons (pv 2) (pa_cons (pe_op op_sub (pv 4) pe_int) pa_nil))))))))
  (pss_cons (ps_if (pt_val (pe_ix ix_tup (pv 2) pe_int (fun _ _ => rfl)))
  (pss_one (ps_set (i := 7) sc_l_choice.nd rfl (Or.inr rfl) (pe_lc (own := [("_law_k", 8)]) (by rfl) sc_l_choice.nd (pi_range1 (by rfl) fx.b_range (pa_cons pe_int pa_nil)) (blkOk_by (own := [("_law_k", 8)]) (N := N_l_choice) (sc := defScope s_l_choice) (by decide +kernel)) (fun _ _ _ _ _ => (pg_name (i := 8) sc_l_choice.nd rfl (Or.inl rfl))) (fun _ _ _ _ _ => pts_nil) (fun _ _ _ _ _ => (pe_op op_cat (pe_lst (pa_cons (pe_tup (pa_cons pe_str (pa_cons (pe_ix ix_str (pe_fn0 Gm hr (by omega) rfl passL) (pe_op op_mod (pe_op op_add (pv 6) (pv 8)) pe_int) (fun _ _ => rfl)) pa_nil))) pa_nil)) (pe_ix (show IxR _ (rIxL K) from ix_list) (pv 7) (pv 8) (fun _ _ => rfl)))))))
  pss_nil)
  (pss_cons (ps_if (pt_cmpR op_eq (pe_op op_mod (pe_op op_fdiv (pv 5) pe_int) pe_int) pe_int (nomark _))
  (pss_one (ps_asg (pe_lst pa_nil) (pg_sub (pv 7) (pe_op op_mod (pe_op op_fdiv (pv 5) pe_int) pe_int) set_list)))
  pss_nil)
  (pss_cons (ps_set (i := 9) sc_l_choice.nd rfl (Or.inl rfl) (pe_tup (pa_cons pe_str (pa_cons (pv 3) (pa_cons (pe_fn Go hr (by omega) rfl passL (pa_cons (pe_ix ix_list (pv 7) pe_int (fun _ _ => rfl)) pa_nil)) (pa_cons (pe_fn Go hr (by omega) rfl passL (pa_cons (pe_ix ix_list (pv 7) pe_int (fun _ _ => rfl)) pa_nil)) pa_nil))))))
  (pss_cons (ps_if (PW.pt (pw_and (pt_not (pt_val (pe_ix ix_tup (pv 2) pe_int (fun _ _ => rfl)))) (pw_and1 (pt_cmpR op_eq (pe_op op_mod (pe_op op_fdiv (pv 5) pe_int) pe_int) pe_int (nomark _)))))
  (pss_one (ps_ret (pe_lst (pa_cons (pv 9) pa_nil))))
  pss_nil)
  (pss_one (ps_ret (pe_lst (pa_cons (pv 9) (pa_cons (pe_tup (pa_cons pe_str (pa_cons (pe_ix ix_str (pe_fn0 Gm hr (by omega) rfl passL) (pe_op op_mod (pe_op op_add (pv 6) pe_int) pe_int) (fun _ _ => rfl)) pa_nil))) pa_nil)))))))))))), go _ fun sp kk pre => (?_ : wS _ _ ⟨[some (.val (intsD cells)), some (.val (.adr sp)), some (.val (atD sc nm tidy)), some (.val (pthD p)), some (.val (.int ((d : Int) + 1))), none, none, none, none, none], some sp, kk⟩ _)⟩
  obtain ⟨⟨hcl, hk0, hk1⟩, hat, hp⟩ : spK cells kk (1 + 2 * Cn d) ∧ AtOk (d + 1) sc nm ∧ pOk p := pre
  have hat' : AtOk d sc nm := ⟨hat.all, by have := hat.len; omega, hat.nm⟩
  try dsimp only [L2.cxOf]
  refine wS_seq ?_
  repeat' walk_at "y"
  refine ⟨cells, sp, ⟨hcl, hk0, by omega⟩, rfl, rfl, fun v k' hv => ?_⟩
  obtain ⟨rfl, n, rfl⟩ : k' = kk + 1 ∧ ∃ z : Nat, v = .int z := hv
  repeat' walk_at "y"
  refine wS_seq ?_
  repeat' walk_at "y"
  obtain ⟨i1, m1, h11, h12, h13⟩ := sgn (z := (n : Int) % 95 + 0) (by omega)
  obtain ⟨i2, m2, h21, h22, h23⟩ := sgn (z := (n : Int) % 95 + 1) (by omega)
  obtain ⟨i3, m3, h31, h32, h33⟩ := sgn (z := (n : Int) % 95 + 2) (by omega)
  have n12 : m1 ≠ m2 := fun z => by
    subst z
    have := SG_inj h12 h22
    omega
  have n13 : m1 ≠ m3 := fun z => by
    subst z
    have := SG_inj h12 h32
    omega
  have n23 : m2 ≠ m3 := fun z => by
    subst z
    have := SG_inj h22 h32
    omega
  have hSGl : SG.length ≤ 16777216 := by rw [SG_len]; decide
  refine wS_seq (wS_setOwn (wN_lc (gw_name (by simp)) ?_))
  repeat' walk_at "y"
  refine ⟨by decide, by decide, fun i acc k => ∃ Ls : List (List Node), acc = Ls.map lsD ∧ Ls.length = i ∧ (∀ L ∈ Ls, NdG tidy d (pP d) (rP d) 4 L) ∧ kk + 1 ≤ k ∧ k ≤ kk + 1 + ((i * Cn d : Nat) : Int), ⟨[], rfl, rfl, by simp, Int.le_refl _, (by show kk + 1 ≤ kk + 1 + ((0 * Cn d : Nat) : Int); omega)⟩, fun i dd acc k2 hdd hI => ?_, fun acc k2 hI => ?_⟩
  · obtain ⟨Ls, rfl, rfl, hLs, hk2, hk3⟩ := hI
    have hi : Ls.length < 2 := by have := (List.getElem?_eq_some_iff.mp hdd).1; simpa using this
    have hm : Ls.length * Cn d ≤ Cn d := by
      have : Ls.length = 0 ∨ Ls.length = 1 := by omega
      rcases this with e | e <;> rw [e] <;> omega
    repeat' walk_at "y"
    refine ⟨⟨cells, sc, nm, tidy, p, kind⟩, sp, ⟨⟨hcl, (by show 0 ≤ k2; omega), (by show k2 + (Cn d : Int) ≤ 100000000; omega)⟩, hat'⟩, rfl, ?_, fun v k' hv => ?_⟩
    · show [intsD cells, D.adr sp, atD sc nm tidy, D.int ((d : Int) + 1 - 1)] = [intsD cells, D.adr sp, atD sc nm tidy, D.int (d : Int)]
      rw [show (d : Int) + 1 - 1 = d by omega]
    obtain ⟨hk4, hk5, L, rfl, hL⟩ : k2 ≤ k' ∧ k' ≤ k2 + (Cn d : Int) ∧ ∃ L, v = .lst (ndL L) ∧ NdG tidy d (pP d) (rP d) 4 L := hv
    refine ⟨by rw [List.length_map]; omega, Ls ++ [L], by simp [lsD], by simp, fun M hM => ?_, (by show kk + 1 ≤ k'; omega), (by show k' ≤ kk + 1 + (((Ls.length + 1) * Cn d : Nat) : Int); rw [Nat.add_mul]; omega)⟩
    rcases List.mem_append.mp hM with h | h
    · exact hLs M h
    · rw [List.mem_singleton.mp h]; exact hL
  obtain ⟨Ls, rfl, hl, hLs, hk2, hk3⟩ := hI
  have hl2 : Ls.length = 2 := by simpa using hl
  match Ls, hl2 with
  | [LA, LB], _ =>
  have hA := hLs LA (by simp)
  have hB := hLs LB (by simp)
  have hk3 : k2 ≤ kk + 1 + ((2 * Cn d : Nat) : Int) := hk3
  clear hl2 hl hLs
  let mkS : List D → Option Cell → Cell → DSt := fun l o t => ⟨[some (.val (intsD cells)), some (.val (.adr sp)), some (.val (atD sc nm tidy)), some (.val (pthD p)), some (.val (.int ((d : Int) + 1))), some (.val (.int n)), some (.val (.int ((n : Int) % 95))), some t, o, none], some sp, k2⟩
  refine wS_cut (I := fun δ => ∃ A B o, OneP d A ∧ OneP d B ∧ (tidy = true → ∃ L1 L2, one A = sideOf m1 (some L1) ∧ one B = sideOf m2 (some L2) ∧ TD L1 ∧ TD L2) ∧ δ = mkS [] o (.own [lsD A, lsD B])) ?_ ?_
  · refine wS_if ?_
    repeat' walk_at "y"
    cases tidy with
    | false =>
      repeat' walk_at "v"
      exact ⟨LA, LB, none, hA.oneP hd20, hB.oneP hd20, (fun z => by cases z), rfl⟩
    | true =>
      refine ite_t ?_
      refine wS_freeze (i := 7) rfl ?_
      refine wS_setOwn (wN_lc (gw_name (by simp)) ?_)
      repeat' walk_at "y"
      refine ⟨by decide, by decide, fun i acc k => acc = [lsD (.text [m1] :: LA), lsD (.text [m2] :: LB)].take i ∧ k = k2, ⟨rfl, rfl⟩, fun i dd acc k3 hdd hI => ?_, fun acc k3 hI => ?_⟩
      · obtain ⟨rfl, rfl⟩ := hI
        rcases i with _ | _ | i
        · obtain rfl : D.int 0 = dd := by simpa using hdd
          repeat' walk_at "y"
          refine ⟨(), trivial, rfl, fun dv hdv => ?_, fun _ => id⟩
          rw [hdv]
          repeat' walk_at "y"
          refine wR_ixS (n := i1) hSGl h11 h12 ?_
          repeat' walk_at "y"
          refine wR_ixL (n := 0) rfl rfl ?_
          repeat' walk_at "y"
          refine ⟨[.tup [.str (cs "text"), .str [m1]]], ndL LA, rfl, rfl, by rw [ndL_len]; simp; have := hA.len; omega, by simp, ?_, rfl⟩
          show _ ++ [D.lst (D.tup [.str (cs "text"), .str [m1]] :: ndL LA)] = _
          rw [← nd_text]; rfl
        · obtain rfl : D.int 1 = dd := by simpa using hdd
          repeat' walk_at "y"
          refine ⟨(), trivial, rfl, fun dv hdv => ?_, fun _ => id⟩
          rw [hdv]
          repeat' walk_at "y"
          refine wR_ixS (n := i2) hSGl h21 h22 ?_
          repeat' walk_at "y"
          refine wR_ixL (n := 1) rfl rfl ?_
          repeat' walk_at "y"
          refine ⟨[.tup [.str (cs "text"), .str [m2]]], ndL LB, rfl, rfl, by rw [ndL_len]; simp; have := hB.len; omega, by simp, ?_, rfl⟩
          show _ ++ [D.lst (D.tup [.str (cs "text"), .str [m2]] :: ndL LB)] = _
          rw [← nd_text]; rfl
        · simp at hdd
      · obtain ⟨rfl, rfl⟩ := hI
        exact ⟨_, _, _, hA.onePT hd20 h13, hB.onePT hd20 h23, (fun _ => ⟨LA, LB, rfl, rfl, hA.td rfl, hB.td rfl⟩), rfl⟩
  · rintro δ ⟨A, B, o, oA, oB, hT, rfl⟩
    refine wS_cut (I := fun δ => ∃ A B o, OneP d A ∧ OneP d B ∧ SdP tidy m1 m2 A B ∧ δ = mkS [] o (.own [lsD A, lsD B])) ?_ ?_
    · refine wS_if ?_
      repeat' walk_at "y"
      refine ite_b (fun hb => ?_) fun hb => ?_
      · refine wS_setIx ?_
        repeat' walk_at "y"
        obtain ⟨i2', h2a, h2b⟩ := mod_nat (z := (n : Int) / 285) (m := 2) (by omega) (by decide)
        rcases i2' with _ | _ | i2'
        · refine ⟨_, 0, rfl, (by rw [show (n : Int) / 285 % 2 = 0 from h2a]; rfl), [], B, o, OneP.nil, oB, fun ht => ?_, rfl⟩
          obtain ⟨L1, L2, e1, e2, t1, t2⟩ := hT ht
          exact ⟨none, some L2, (by rw [one]; rfl), e2, (fun L h => by cases h), (fun L h => by cases h; exact t2), .inr (by simp)⟩
        · refine ⟨_, 1, rfl, (by rw [show (n : Int) / 285 % 2 = 1 from h2a]; rfl), A, [], o, oA, OneP.nil, fun ht => ?_, rfl⟩
          obtain ⟨L1, L2, e1, e2, t1, t2⟩ := hT ht
          exact ⟨some L1, none, e1, (by rw [one]; rfl), (fun L h => by cases h; exact t1), (fun L h => by cases h), .inl (by simp)⟩
        · omega
      · repeat' walk_at "y"
        exact ⟨A, B, o, oA, oB, fun ht => by obtain ⟨L1, L2, e1, e2, t1, t2⟩ := hT ht; exact ⟨some L1, some L2, e1, e2, fun L h => by cases h; exact t1, fun L h => by cases h; exact t2, .inl (by simp)⟩, rfl⟩
    · clear hT oA oB
      rintro δ ⟨A, B, o, ⟨oA, bA⟩, ⟨oB, bB⟩, hS, rfl⟩
      refine wS_freeze (i := 7) rfl ?_
      refine wS_seq ?_
      repeat' walk_at "y"
      refine wR_ixL (n := 0) rfl rfl ?_
      repeat' walk_at "y"
      refine ⟨A, oA, rfl, fun v hv => ?_, fun _ => id⟩
      have hv : v = FD (one A) := hv
      rw [hv]
      repeat' walk_at "y"
      refine wR_ixL (n := 1) rfl rfl ?_
      repeat' walk_at "y"
      refine ⟨B, oB, rfl, fun v hv => ?_, fun _ => id⟩
      have hv : v = FD (one B) := hv
      rw [hv]
      repeat' walk_at "y"
      have e0 : D.tup [.str (Str.ofString "choice").cps.toList, pthD p, FD (one A), FD (one B)] = ndN (.choice p (one A) (one B)) := by rw [ndN]
      rw [e0]
      have pc := PcG.choice1 hp bA bB
      have epP : pP (d + 1) = 1 + 4 * pP d := by rw [pP, PB_eq]
      have erP : rP (d + 1) = 1 + (rP d + 4 * pP d) + 43 * (4 * pP d) := by rw [rP, PB_eq, RB_eq]
      rw [← epP, ← erP] at pc
      have last : (cCho d).post ⟨cells, sc, nm, tidy, p, kind⟩ kk (.lst [ndN (.choice p (one A) (one B)), .tup [.str (cs "text"), .str [m3]]]) k2 := by
        refine ⟨by omega, by omega, [.choice p (one A) (one B), .text [m3]], by rw [ndL, ndL, ndL, nd_text], ?_⟩
        refine PcG.with pc rfl h33 fun ht => ?_
        obtain ⟨L1, L2, e1, e2, t1, t2, t3⟩ := hS ht
        rw [e1, e2]
        exact td_choice h13 h23 h33 n12 n13 n23 t1 t2 t3
      refine wS_cut (I := fun δ => δ = ⟨[some (.val (intsD cells)), some (.val (.adr sp)), some (.val (atD sc nm tidy)), some (.val (pthD p)), some (.val (.int ((d : Int) + 1))), some (.val (.int n)), some (.val (.int ((n : Int) % 95))), some (.val (.lst [lsD A, lsD B])), o, some (.val (ndN (.choice p (one A) (one B))))], some sp, k2⟩) ?_ ?_
      · repeat' walk_at "v"
        cases tidy with
        | true =>
          repeat' walk_at "v"
          exact rfl
        | false =>
          repeat' walk_at "v"
          refine ite_b (fun hb => ?_) fun hb => ?_
          · repeat' walk_at "v"
            exact ⟨(by show kk ≤ k2; omega), (by show k2 ≤ kk + ((1 + 2 * Cn d : Nat) : Int); omega), [.choice p (one A) (one B)], by rw [ndL, ndL], pc⟩
          · repeat' walk_at "v"
            exact rfl
      · rintro δ rfl
        repeat' walk_at "v"
        refine ⟨(), trivial, rfl, fun dv hdv => ?_, fun _ => id⟩
        rw [hdv]
        repeat' walk_at "v"
        refine wR_ixS (n := i3) hSGl h31 h32 ?_
        repeat' walk_at "v"
        exact last
end

/-! W21: node lists. -/
abbrev s_l_nodes : Stmt := top 70
abbrev N_l_nodes : List Str := ["_law_cells", "_law_spot", "_law_at", "_law_deep", "_law_found", "_law_k", "_law_n", "_law_kind", "_law_fits", "_law_one_here", "_law_path", "_law_own"]
theorem sc_l_nodes : FnScope N_l_nodes ["_law_cells", "_law_spot", "_law_at", "_law_deep"] (defScope s_l_nodes) := ⟨rfl, rfl, rfl, by decide +kernel, rfl, by decide +kernel, by decide +kernel⟩
def cLopD : Nat → CtB GA
  | 0 => { cLop 0 with pre := fun _ _ => False }
  | d + 1 => cLop d
def cChoD : Nat → CtB GA
  | 0 => { cCho 0 with pre := fun _ _ => False }
  | d + 1 => cCho d
def Itn : Nat → Nat
  | 0 => 1
  | d + 1 => 2 + 2 * Cn d
theorem Cn_eq : ∀ d, Cn d = 1 + 4 * Itn d
  | 0 => rfl
  | d + 1 => by rw [Cn, Itn]
theorem Itn_pos : ∀ d, 1 ≤ Itn d
  | 0 => Nat.le_refl _
  | d + 1 => by rw [Itn]; omega
theorem pP_pos : ∀ d, 1 ≤ pP d
  | 0 => by rw [pP]; omega
  | d + 1 => by rw [pP]; omega
theorem rP_pos : ∀ d, 1 ≤ rP d
  | 0 => by rw [rP]; omega
  | d + 1 => by rw [rP]; omega
/-- the kinds -/
def kds : List T := [[], [116, 119, 110], [116, 119, 110], [108, 109], [108, 109], [98], [98]]
def fitB (kd : T) : D → Bool
  | .tup [_, .str [c]] => decide (c ∈ kd) && !decide (kd = [])
  | _ => false
section
variable {P : Program} {w : World} {K : PySem.W.Frag} {mg : Str → Option Value} {base : Heap} {f : Addr} {fd : FuncData} {wc : Way → Addr} {nf : Addr} {k : Nat}
theorem ok_l_nodes {d : Nat} (hd20 : d ≤ 20) (fx : Fx K mg wc nf) (F : FnP K "_law_nodes" "_law_nodes" s_l_nodes f fd) (Gc : Fn P w K mg base "_law_cell" ["_law_cells", "_law_spot"] k (spB K wc cCell))
    (Gt : Fn P w K mg base "_law_text" ["_law_n"] k (spA K wc nf cText)) (Gp : Fn P w K mg base "_law_place" ["_law_path", "_law_kind", "_law_tidy", "_law_n"] k (spA K wc nf cPlace))
    (Gl : Fn P w K mg base "_law_loop" ["_law_cells", "_law_spot", "_law_at", "_law_path", "_law_kind", "_law_deep"] k (spB K wc (cLopD d))) (Gh : Fn P w K mg base "_law_choice" ["_law_cells", "_law_spot", "_law_at", "_law_path", "_law_deep"] k (spB K wc (cChoD d))) :
    FnOk P w K mg base (L2.CX P w) (k + 1) f fd ["_law_cells", "_law_spot", "_law_at", "_law_deep"] (spB K wc (cNds d)) := by
  refine F.ok sc_l_nodes (spB_len fun _ _ _ _ => rfl) fun cdv A outer s H vs Q E hr h => ?_
  obtain ⟨a, go⟩ := pure_B (nf := nf) (N := N_l_nodes) (fun _ _ _ _ => by simp [cNds]) h
  obtain ⟨cells, sc, nm, tidy, p0, kind0⟩ := a
  refine ⟨_, (pss_cons (ps_set (i := 4) sc_l_nodes.nd rfl (Or.inl rfl) (pe_lst pa_nil))
  (pss_cons (ps_for (passes_of rfl) (by rfl) (pi_range1 (by rfl) fx.b_range (pa_cons (pe_op op_add pe_int (pe_op op_mod (pe_op op_fdiv (pe_fn Gc hr (by omega) rfl passL (pa_cons (pv 0) (pa_cons (pv 1) pa_nil))) pe_int) pe_int)) pa_nil)) (pg_name (i := 5) sc_l_nodes.nd rfl (Or.inl rfl))
  (pss_cons (ps_set (i := 6) sc_l_nodes.nd rfl (Or.inl rfl) (pe_fn Gc hr (by omega) rfl passL (pa_cons (pv 0) (pa_cons (pv 1) pa_nil))))
  (pss_cons (ps_set (i := 7) sc_l_nodes.nd rfl (Or.inr rfl) (pe_ix ix_list (pe_lst (pa_cons pe_str (pa_cons pe_str (pa_cons pe_str (pa_cons pe_str (pa_cons pe_str (pa_cons pe_str (pa_cons pe_str pa_nil)))))))) (pe_op op_mod (pv 6) (pe_ix ix_list (pe_lst (pa_cons pe_int (pa_cons pe_int pa_nil))) (pe_callTy call_int1 (by rfl) fx.b_int bb_int (pa_cons (pe_or (pe_cmpR op_lt (pv 3) pe_int (nomark _)) (pe_one (pe_cmpR op_gt (pe_ix ix_list (pv 1) pe_int (fun _ _ => rfl)) pe_int (nomark _)))) pa_nil)) (fun _ _ => rfl))) (fun _ _ => rfl)))
  (pss_cons (ps_setLc (i := 8) (own := [("_law_one_here", 9)]) (by rfl) sc_l_nodes.nd rfl rfl (sw_true rfl rfl rfl (by decide +kernel)) (pi_list (pe_ix ix_tup (pv 2) pe_int (fun _ _ => rfl))) (blkOk_by (own := [("_law_one_here", 9)]) (N := N_l_nodes) (sc := defScope s_l_nodes) (by decide +kernel)) (fun _ _ _ _ _ => (pg_name (i := 9) sc_l_nodes.nd rfl (Or.inl rfl))) (fun _ _ _ _ _ => (pts_one (PW.pt (pw_and (pt_cmpR op_in_sign (pe_ix (show IxR _ (rIxT K) from ix_tup) (pv 9) pe_int (fun _ _ => rfl)) (pv 7) rfl) (pw_and1 (pt_cmpR op_ne (pv 7) pe_str (nomark _))))))) (fun _ _ _ _ _ => (pv 9)))
  (pss_cons (ps_asg (pe_ix ix_list (pe_op op_cat (pv 8) (pe_lst (pa_cons (pe_tup (pa_cons pe_non (pa_cons pe_str pa_nil))) pa_nil))) (pe_op op_mod (pe_op op_fdiv (pv 6) pe_int) (pe_callB (call_max2 (by rfl)) (by rfl) fx.b_max bb_max (pa_cons pe_int (pa_cons (pe_callB call_len_seq (by rfl) fx.b_len bb_len (pa_cons (pv 8) pa_nil)) pa_nil)))) (fun _ _ => rfl)) (pg_tup (by rfl) (pgs_cons (pg_name (i := 10) sc_l_nodes.nd rfl (Or.inl rfl)) (pgs_cons (pg_name (i := 11) sc_l_nodes.nd rfl (Or.inl rfl)) pgs_nil))))
  (pss_one (ps_if (pt_cmpR op_isN (pv 10) pe_non (nomark _))
  (pss_one (ps_expr (pe_bm PySem.F.plainAttrs_list PySem.F.slot_list_append PySem.F.type_list_append mt_append (pv 4) (pa_cons (pe_tup (pa_cons pe_str (pa_cons (pe_fn Gt hr (by omega) rfl passL (pa_cons (pe_op op_fdiv (pv 6) pe_int) pa_nil)) pa_nil))) pa_nil))))
  (pss_one (ps_if (pt_cmpR op_in_sign (pv 11) pe_str rfl)
  (pss_one (ps_set (i := 4) sc_l_nodes.nd rfl (Or.inl rfl) (pe_op op_cat (pv 4) (pe_fn Gp hr (by omega) rfl passL (pa_cons (pv 10) (pa_cons (pv 11) (pa_cons (pe_ix ix_tup (pv 2) pe_int (fun _ _ => rfl)) (pa_cons (pe_op op_fdiv (pv 6) pe_int) pa_nil))))))))
  (pss_one (ps_if (pt_cmpR op_eq (pv 11) pe_str (nomark _))
  (pss_one (ps_set (i := 4) sc_l_nodes.nd rfl (Or.inl rfl) (pe_op op_cat (pv 4) (pe_fn Gh hr (by omega) rfl passL (pa_cons (pv 0) (pa_cons (pv 1) (pa_cons (pv 2) (pa_cons (pv 10) (pa_cons (pv 3) pa_nil)))))))))
  (pss_one (ps_set (i := 4) sc_l_nodes.nd rfl (Or.inl rfl) (pe_op op_cat (pv 4) (pe_fn Gl hr (by omega) rfl passL (pa_cons (pv 0) (pa_cons (pv 1) (pa_cons (pv 2) (pa_cons (pv 10) (pa_cons (pv 11) (pa_cons (pv 3) pa_nil)))))))))))))))))))))
  (pss_one (ps_ret (pv 4))))), go _ fun sp kk pre => (?_ : wS _ _ ⟨[some (.val (intsD cells)), some (.val (.adr sp)), some (.val (atD sc nm tidy)), some (.val (.int d)), none, none, none, none, none, none, none, none], some sp, kk⟩ _)⟩
  obtain ⟨⟨hcl, hk0, hk1⟩, hat⟩ : spK cells kk (Cn d) ∧ AtOk d sc nm := pre
  have hC := Cn_eq d
  try dsimp only [L2.cxOf]
  refine wS_seq ?_
  repeat' walk_at "y"
  refine wS_seq ?_
  repeat' walk_at "y"
  refine ⟨cells, sp, ⟨hcl, hk0, (by show kk ≤ 100000000; omega)⟩, rfl, rfl, fun v k' hv => ?_⟩
  obtain ⟨rfl, n0, rfl⟩ : k' = kk + 1 ∧ ∃ z : Nat, v = .int z := hv
  repeat' walk_at "y"
  obtain ⟨m0, hm1, hm2⟩ := mod_nat (z := (n0 : Int) / 5) (m := 4) (by omega) (by decide)
  have hm1 : (n0 : Int) / 5 % 4 = m0 := hm1
  rw [hm1]
  refine ⟨by omega, by omega, fun i δ => ∃ (L : List Node) (k2 : Int) (o5 o6 o7 o8 o9 o10 o11 : Option Cell), NdG tidy d (pP d) (rP d) i L ∧ kk + 1 ≤ k2 ∧ k2 ≤ kk + 1 + ((i * Itn d : Nat) : Int) ∧ δ = ⟨[some (.val (intsD cells)), some (.val (.adr sp)), some (.val (atD sc nm tidy)), some (.val (.int d)), some (.own (ndL L)), o5, o6, o7, o8, o9, o10, o11], some sp, k2⟩,
    ⟨[], kk + 1, none, none, none, none, none, none, none, NdG.nil, Int.le_refl _, by simp, by rw [ndL]; rfl⟩, ?_, ?_⟩
  · rintro i dd δ hdd ⟨L, k2, o5, o6, o7, o8, o9, o10, o11, hL, hk2, hk3, rfl⟩
    have hi' : i < (1 + (m0 : Int)).toNat := by
      have := (List.getElem?_eq_some_iff.mp hdd).1
      rwa [List.length_map, List.length_range] at this
    have hi : i < 4 := by omega
    have hi4 : (i + 1) * Itn d ≤ 4 * Itn d := Nat.mul_le_mul_right _ (by omega)
    rw [Nat.add_mul] at hi4
    have hIp := Itn_pos d
    obtain rfl : D.int i = dd := by
      rw [List.getElem?_map, List.getElem?_range hi'] at hdd
      simpa using hdd
    repeat' walk_at "y"
    refine wS_seq ?_
    repeat' walk_at "y"
    refine ⟨cells, sp, ⟨hcl, (by show 0 ≤ k2; omega), (by show k2 ≤ 100000000; omega)⟩, rfl, rfl, fun v k' hv => ?_⟩
    obtain ⟨rfl, n, rfl⟩ : k' = k2 + 1 ∧ ∃ z : Nat, v = .int z := hv
    repeat' walk_at "y"
    refine wS_cut (I := fun δ => ∃ kd, kd ∈ kds ∧ (d = 0 → kd = [] ∨ kd = [116, 119, 110]) ∧ δ = ⟨[some (.val (intsD cells)), some (.val (.adr sp)), some (.val (atD sc nm tidy)), some (.val (.int d)), some (.own (ndL L)), some (.val (.int i)), some (.val (.int n)), some (.val (.str kd)), o8, o9, o10, o11], some sp, k2 + 1⟩) ?_ ?_
    · repeat' walk_at "y"
      refine ite_b (fun hb => ?_) fun hb => ?_
      · repeat' walk_at "y"
        refine wR_ixL (n := 1) rfl rfl ?_
        repeat' walk_at "y"
        obtain ⟨j, hj1, hj2⟩ := mod_nat (z := (n : Int)) (m := 3) (by omega) (by decide)
        rcases j with _ | _ | _ | j
        · refine wR_ixL (n := 0) hj1 rfl ?_
          repeat' walk_at "y"
          exact ⟨[], by simp [kds], fun _ => .inl rfl, rfl⟩
        · refine wR_ixL (n := 1) hj1 rfl ?_
          repeat' walk_at "y"
          exact ⟨[116, 119, 110], by simp [kds], fun _ => .inr rfl, rfl⟩
        · refine wR_ixL (n := 2) hj1 rfl ?_
          repeat' walk_at "y"
          exact ⟨[116, 119, 110], by simp [kds], fun _ => .inr rfl, rfl⟩
        · omega
      · repeat' walk_at "y"
        have hd0 : d ≠ 0 := fun z => by subst z; simp at hb
        have key : ∀ j : Nat, j < 7 → ∃ kd, kd ∈ kds ∧ [D.str (Str.ofString "").1.toList, D.str (Str.ofString "twn").1.toList, D.str (Str.ofString "twn").1.toList, D.str (Str.ofString "lm").1.toList, D.str (Str.ofString "lm").1.toList, D.str (Str.ofString "b").1.toList, D.str (Str.ofString "b").1.toList][j]? = some (.str kd) := fun j hj => by
          rcases j with _ | _ | _ | _ | _ | _ | _ | j
          · exact ⟨[], by simp [kds], rfl⟩
          · exact ⟨[116, 119, 110], by simp [kds], rfl⟩
          · exact ⟨[116, 119, 110], by simp [kds], rfl⟩
          · exact ⟨[108, 109], by simp [kds], rfl⟩
          · exact ⟨[108, 109], by simp [kds], rfl⟩
          · exact ⟨[98], by simp [kds], rfl⟩
          · exact ⟨[98], by simp [kds], rfl⟩
          · omega
        by_cases h24 : (24 : Int) < k2 + 1
        · refine wR_ixL (n := 1) (if_pos (decide_eq_true h24)) rfl ?_
          repeat' walk_at "y"
          obtain ⟨j, hj1, hj2⟩ := mod_nat (z := (n : Int)) (m := 3) (by omega) (by decide)
          obtain ⟨kd, h1, h2⟩ := key j (by omega)
          refine wR_ixL (n := j) hj1 h2 ?_
          repeat' walk_at "y"
          exact ⟨kd, h1, fun z => absurd z hd0, rfl⟩
        · refine wR_ixL (n := 0) (if_neg fun z => h24 (of_decide_eq_true z)) rfl ?_
          repeat' walk_at "y"
          obtain ⟨j, hj1, hj2⟩ := mod_nat (z := (n : Int)) (m := 7) (by omega) (by decide)
          obtain ⟨kd, h1, h2⟩ := key j (by omega)
          refine wR_ixL (n := j) hj1 h2 ?_
          repeat' walk_at "y"
          exact ⟨kd, h1, fun z => absurd z hd0, rfl⟩
    · rintro δ ⟨kd, hkd, hkd0, rfl⟩
      refine wS_seq ?_
      repeat' walk_at "y"
      refine wE_lcF (fitB kd) (gw_name (by simp)) ?_
      repeat' walk_at "y"
      refine ⟨by have := hat.len; rw [List.length_map]; omega, fun i dd hd => ?_, ?_⟩
      · obtain ⟨e, he, -, rfl⟩ := sc_get hd
        obtain ⟨ep, ec⟩ := e
        repeat' walk_at "y"
        refine ite_b (fun hb => ?_) fun hb => ?_
        · repeat' walk_at "y"
          refine ⟨by show (!decide (kd = [])) = (decide (ec ∈ kd) && !decide (kd = [])); rw [hb, Bool.true_and], rfl, fun _ => ?_⟩
          repeat' walk_at "y"
          exact ⟨rfl, rfl⟩
        · repeat' walk_at "y"
          have hz : fitB kd (enD (ep, ec)) = false := by show (decide (ec ∈ kd) && !decide (kd = [])) = false; rw [hb, Bool.false_and]
          exact ⟨hz.symm, rfl, fun z => by rw [hz] at z; cases z⟩
      have hflt : (sc.map enD).filter (fitB kd) = (sc.filter fun e => fitB kd (enD e)).map enD := by rw [List.filter_map]; rfl
      rw [hflt]
      have hsub : ∀ e ∈ sc.filter (fun e => fitB kd (enD e)), okE e ∧ e.2 ∈ kd := fun e he => by
        obtain ⟨h1, h2⟩ := List.mem_filter.mp he
        refine ⟨hat.all e h1, ?_⟩
        simp [fitB, enD] at h2
        exact h2.1
      have hflen : (sc.filter fun e => fitB kd (enD e)).length ≤ sc.length := List.length_filter_le _ _
      generalize sc.filter (fun e => fitB kd (enD e)) = sf at *
      have hal := hat.len
      repeat' walk_at "y"
      refine wS_seq ?_
      repeat' walk_at "y"
      refine ⟨_, _, rfl, rfl, by rw [List.length_map]; simp; omega, ?_⟩
      repeat' walk_at "y"
      · split <;> omega
      have hch : ∃ j : Nat, (n : Int) / 7 % (if (((sf.map enD).length : Nat) : Int) > 1 then (((sf.map enD).length : Nat) : Int) else 1) = (j : Int) ∧ ((sf.map enD ++ [D.tup [D.non, D.str (Str.ofString "").1.toList]])[j]? = some (.tup [.non, .str []]) ∨ ∃ e ∈ sf, (sf.map enD ++ [D.tup [D.non, D.str (Str.ofString "").1.toList]])[j]? = some (enD e)) := by
        rcases sf with _ | ⟨e0, sf⟩
        · exact ⟨0, by simp, .inl rfl⟩
        · have hm : 0 < (e0 :: sf).length := by simp
          have e1 : (if ((((e0 :: sf).map enD).length : Nat) : Int) > 1 then ((((e0 :: sf).map enD).length : Nat) : Int) else 1) = (((e0 :: sf).length : Nat) : Int) := by
            rw [List.length_map]; split <;> omega
          rw [e1]
          obtain ⟨j, hj1, hj2⟩ := mod_nat (z := (n : Int) / 7) (m := (e0 :: sf).length) (by omega) hm
          refine ⟨j, hj1, .inr ⟨(e0 :: sf)[j], List.getElem_mem hj2, ?_⟩⟩
          rw [List.getElem?_append_left (by rw [List.length_map]; exact hj2), List.getElem?_map, List.getElem?_eq_getElem hj2]; rfl
      obtain ⟨j, hj, hch⟩ := hch
      rcases hch with hch | ⟨⟨ep, ec⟩, he, hch⟩
      · refine wR_ixL (n := j) hj hch ?_
        refine wG_tup (is := [10, 11]) rfl rfl ?_
        dsimp only [puts]
        repeat' walk_at "y"
        refine wS_if ?_
        repeat' walk_at "y"
        refine wR_isX ?_
        repeat' walk_at "v"
        refine ⟨n / 7, trivial, rfl, fun dv hdv => ?_, fun _ => id⟩
        obtain ⟨t, rfl, ht1, ht2, ht3⟩ : ∃ t : T, dv = .str t ∧ t ≠ [] ∧ allSG t = true ∧ t.length ≤ 3 := hdv
        repeat' walk_at "v"
        have pc : PcG tidy d (pP d) (rP d) [.text t] := PcG.text ht1 ht2 ht3
        refine ⟨by rw [ndL_len]; have := hL.len; omega, L ++ [.text t], k2 + 1, some (.val (.int i)), some (.val (.int n)), some (.val (.str kd)), some (.val (.lst (sf.map enD))), o9, some (.val .non), some (.val (.str [])), hL.app pc (by omega), by omega, by rw [Nat.add_mul]; omega, ?_⟩
        rw [ndL_app, show ndL [.text t] = [D.tup [.str (cs "text"), .str t]] from by rw [ndL, ndL, nd_text]]
        rfl
      · obtain ⟨hok, hin⟩ := hsub _ he
        refine wR_ixL (n := j) hj hch ?_
        refine wG_tup (is := [10, 11]) rfl rfl ?_
        dsimp only [puts]
        repeat' walk_at "y"
        refine wS_if ?_
        repeat' walk_at "y"
        refine wR_isX ?_
        repeat' walk_at "v"
        have hLl := hL.len
        have hok1 : pOk ep := hok.1.2.2
        have hin : ec ∈ kd := hin
        refine ite_b (fun hb => ?_) fun hb => ?_
        · refine wS_setOwn (wN_catOwn rfl ?_)
          repeat' walk_at "v"
          have hm : ec ∈ [110, 116, 119] := by
            have := of_decide_eq_true hb
            have h2 : ec ∈ [116, 119, 110] := this
            simp at h2 ⊢; omega
          refine ⟨(ep, ec, tidy, n / 49), ⟨hm, hok1⟩, rfl, fun dv hdv => ?_, fun _ => id⟩
          obtain ⟨M, rfl, pc0⟩ : ∃ M, dv = .lst (ndL M) ∧ PcG tidy 0 1 1 M := hdv
          have pc := pc0.up (Nat.zero_le d) (pP_pos d) (rP_pos d)
          refine ⟨_, rfl, by rw [ndL_len, ndL_len]; have := pc.len; omega, L ++ M, k2 + 1, some (.val (.int i)), some (.val (.int n)), some (.val (.str kd)), some (.val (.lst (sf.map enD))), o9, some (.val (pthD ep)), some (.val (.str [ec])), hL.app pc (by omega), by omega, by rw [Nat.add_mul]; omega, ?_⟩
          rw [ndL_app]; rfl
        · have hnt : ec ∉ [116, 119, 110] := fun z => by
            have := of_decide_eq_false hb
            exact this z
          have hkc : (ec = 98 ∨ ec = 108 ∨ ec = 109) ∧ d ≠ 0 := by
            refine ⟨?_, fun z => ?_⟩
            · have := hok.2
              simp at this hnt; omega
            · rcases hkd0 z with rfl | rfl
              · cases hin
              · exact hnt hin
          obtain ⟨hec, hd0⟩ := hkc
          obtain ⟨d', rfl⟩ := Nat.exists_eq_succ_of_ne_zero hd0
          repeat' walk_at "v"
          have hI : Itn d'.succ = 2 + 2 * Cn d' := rfl
          refine ite_b (fun hb => ?_) fun hb => ?_
          · refine wS_setOwn (wN_catOwn rfl ?_)
            repeat' walk_at "v"
            refine ⟨⟨cells, sc, nm, tidy, ep, ec⟩, sp, ⟨⟨hcl, (by show 0 ≤ k2 + 1; omega), (by show k2 + 1 + ((1 + 2 * Cn d' : Nat) : Int) ≤ 100000000; omega)⟩, hat, hok1⟩, rfl, rfl, fun v k' hv => ?_⟩
            obtain ⟨hk4, hk5, M, rfl, pc⟩ : k2 + 1 ≤ k' ∧ k' ≤ k2 + 1 + ((1 + 2 * Cn d' : Nat) : Int) ∧ ∃ M, v = .lst (ndL M) ∧ PcG tidy (d' + 1) (pP (d' + 1)) (rP (d' + 1)) M := hv
            refine ⟨_, rfl, by rw [ndL_len, ndL_len]; have := pc.len; omega, L ++ M, k', some (.val (.int i)), some (.val (.int n)), some (.val (.str kd)), some (.val (.lst (sf.map enD))), o9, some (.val (pthD ep)), some (.val (.str [ec])), hL.app pc (by omega), by omega, by rw [Nat.add_mul]; omega, ?_⟩
            rw [ndL_app]; rfl
          · refine wS_setOwn (wN_catOwn rfl ?_)
            repeat' walk_at "v"
            refine ⟨⟨cells, sc, nm, tidy, ep, ec⟩, sp, ⟨⟨hcl, (by show 0 ≤ k2 + 1; omega), (by show k2 + 1 + ((1 + Cn d' : Nat) : Int) ≤ 100000000; omega)⟩, hat, hok1⟩, rfl, rfl, fun v k' hv => ?_⟩
            obtain ⟨hk4, hk5, M, rfl, pc⟩ : k2 + 1 ≤ k' ∧ k' ≤ k2 + 1 + ((1 + Cn d' : Nat) : Int) ∧ ∃ M, v = .lst (ndL M) ∧ PcG tidy (d' + 1) (pP (d' + 1)) (rP (d' + 1)) M := hv
            refine ⟨_, rfl, by rw [ndL_len, ndL_len]; have := pc.len; omega, L ++ M, k', some (.val (.int i)), some (.val (.int n)), some (.val (.str kd)), some (.val (.lst (sf.map enD))), o9, some (.val (pthD ep)), some (.val (.str [ec])), hL.app pc (by omega), by omega, by rw [Nat.add_mul]; omega, ?_⟩
            rw [ndL_app]; rfl
  · rintro δ ⟨L, k2, o5, o6, o7, o8, o9, o10, o11, hL, hk2, hk3, rfl⟩
    have hlen : (List.map (fun (i : Nat) => D.int i) (List.range (1 + (m0 : Int)).toNat)).length = 1 + m0 := by rw [List.length_map, List.length_range]; omega
    rw [hlen] at hk3 hL
    have hm4 : (1 + m0) * Itn d ≤ 4 * Itn d := Nat.mul_le_mul_right _ (by omega)
    refine wS_freeze (i := 4) rfl ?_
    repeat' walk_at "v"
    exact ⟨(by show kk ≤ k2; omega), (by show k2 ≤ kk + (Cn d : Int); omega), L, rfl, hL.up (by omega)⟩
end

/-! W22: forms. -/
abbrev s_l_form : Stmt := top 71
abbrev N_l_form : List Str := ["_law_cells", "_law_spot", "_law_first", "_law_tidy", "_law_names_here", "_law_at", "_law_nodes_here", "_law_n", "_law_k", "_law_sides", "_law_side", "_law_path"]
theorem sc_l_form : FnScope N_l_form ["_law_cells", "_law_spot", "_law_first", "_law_tidy"] (defScope s_l_form) := ⟨rfl, rfl, rfl, by decide +kernel, rfl, by decide +kernel, by decide +kernel⟩
structure WrG (tidy : Bool) (j : Nat) (L : List Node) : Prop where
  gd : gdL L
  nk : nkL L
  dpb : dpL L ≤ 3 + j
  len : L.length ≤ 8
  pdb : pdL L ≤ 340 + j
  rbb : rbL L ≤ 5096 + j
  tx : txL L ≤ 16
  tk : tkL 30 L
  td : tidy = true → TD L
theorem NdG.wr {tidy : Bool} {L : List Node} (h : NdG tidy 3 (pP 3) (rP 3) 4 L) : WrG tidy 0 L where
  gd := h.gd
  nk := h.nk
  dpb := h.dpb
  len := h.len
  pdb := Nat.le_trans h.pdb (by decide)
  rbb := Nat.le_trans h.rbb (by decide)
  tx := h.tx
  tk := h.tk
  td := h.td
theorem WrG.bd {tidy : Bool} {j c : Nat} {L : List Node} (h : WrG tidy j L) (hc : c ∈ SG) : BdG (3 + j) (340 + j) (5096 + j) (one (.text [c] :: L)) where
  gd := one_gd (by rw [gdL, gdN]; exact ⟨⟨by simp, allSG_cons.mpr ⟨hc, rfl⟩, by simp⟩, h.gd, by have := h.len; omega⟩) (by
    have e : txL (.text [c] :: L) = 1 + txL L := by simp [txL, txN]
    have := h.tx; omega)
  nk := one_nk (by rw [nkL, nkN]; exact ⟨trivial, h.nk⟩)
  dpb := one_dp (by rw [dpL, dpN]; have := h.dpb; omega)
  pdb := by rw [one_pd, pdL, pdN]; have := h.pdb; omega
  rbb := by rw [one_rb, rb_text]; exact h.rbb
  tx := by
    rw [one_tx]
    have e : txL (.text [c] :: L) = 1 + txL L := by simp [txL, txN]
    have := h.tx; omega
  tk := one_tk (by rw [tkL, tkN]; exact ⟨trivial, h.tk⟩)
theorem WrG.step {tidy : Bool} {j c : Nat} {p : List T} {A B : List Node} (hp : pOk p) (hA : BdG (3 + j) (340 + j) (5096 + j) A) (hB : BdG (3 + j) (340 + j) (5096 + j) B) (hc : c ∈ SG) (td : tidy = true → TD [.choice p A B, .text [c]]) :
    WrG tidy (j + 1) [.choice p A B, .text [c]] := by
  have h := PcG.with (PcG.choice1 hp hA hB) rfl hc td
  exact ⟨h.gd, h.nk, Nat.le_trans h.dpb (by omega), by simp, Nat.le_trans h.pdb (by omega), by
    rw [rbL, rb_text, rbN, rbL, pdL, pdN, pdL]
    have := hA.rbb; have := hB.rbb; omega, Nat.le_trans h.tx (by omega), h.tk, td⟩
/-- what `_law_form` gives -/
structure FmG (tidy : Bool) (L : List Node) : Prop where
  gd : gdL L
  nk : nkL L
  dpb : dpL L ≤ 23
  rbb : rbL L ≤ 5200
  tx : txL L ≤ 16
  tk : tkL 30 L
  td : tidy = true → TD L
theorem WrG.fm {tidy : Bool} {j : Nat} {L : List Node} (h : WrG tidy j L) (hj : j ≤ 20) : FmG tidy (one L) where
  gd := one_gd h.gd (by have := h.tx; omega)
  nk := one_nk h.nk
  dpb := one_dp (by have := h.dpb; omega)
  rbb := by rw [one_rb]; have := h.rbb; omega
  tx := by rw [one_tx]; exact h.tx
  tk := one_tk h.tk
  td := fun z => one_TD (h.td z)
def cForm : CtB (List Int × Int × Bool) := { args := fun s a => [intsD a.1, .adr s, .int a.2.1, .bl a.2.2], pre := fun a k => spK a.1 k 4000, post := fun a k v k' => k ≤ k' ∧ k' ≤ k + 4000 ∧ ∃ L nm, v = .tup [FD L, strsD nm] ∧ FmG a.2.2 L }
theorem Cn3 : Cn 3 ≤ 3900 := by decide
section
variable {P : Program} {w : World} {K : PySem.W.Frag} {mg : Str → Option Value} {base : Heap} {f : Addr} {fd : FuncData} {wc : Way → Addr} {nf : Addr} {k : Nat}
theorem ok_l_form (fx : Fx K mg wc nf) (F : FnP K "_law_form" "_law_form" s_l_form f fd) (Ga : Fn P w K mg base "_law_names" ["_law_n"] k (spA K wc nf cNames)) (Gs : Fn P w K mg base "_law_scope" ["_law_names_here"] k (spA K wc nf cScope))
    (Gn : Fn P w K mg base "_law_nodes" ["_law_cells", "_law_spot", "_law_at", "_law_deep"] k (spB K wc (cNds 3))) (Gc : Fn P w K mg base "_law_cell" ["_law_cells", "_law_spot"] k (spB K wc cCell)) (Go : Fn P w K mg base "_law_one" ["_law_nodes_here"] k (spA K wc nf cOne)) (Gm : Fn P w K mg base "_law_marks" [] k (spA K wc nf cMarks)) :
    FnOk P w K mg base (L2.CX P w) (k + 1) f fd ["_law_cells", "_law_spot", "_law_first", "_law_tidy"] (spB K wc cForm) := by
  refine F.ok sc_l_form (spB_len fun _ _ _ _ => rfl) fun cdv A outer s H vs Q E hr h => ?_
  obtain ⟨a, go⟩ := pure_B (nf := nf) (N := N_l_form) (fun _ _ _ _ => by simp [cForm]) h
  obtain ⟨cells, first, tidy⟩ := a
  refine ⟨_, (pss_cons (ps_set (i := 4) sc_l_form.nd rfl (Or.inl rfl) (pe_fn Ga hr (by omega) rfl passL (pa_cons (pv 2) pa_nil)))
  (pss_cons (ps_set (i := 5) sc_l_form.nd rfl (Or.inl rfl) (pe_tup (pa_cons (pe_fn Gs hr (by omega) rfl passL (pa_cons (pv 4) pa_nil)) (pa_cons (pv 4) (pa_cons (pv 3) pa_nil)))))
  (pss_cons (ps_set (i := 6) sc_l_form.nd rfl (Or.inl rfl) (pe_fn Gn hr (by omega) rfl passL (pa_cons (pv 0) (pa_cons (pv 1) (pa_cons (pv 5) (pa_cons pe_int pa_nil))))))
  (pss_cons (ps_set (i := 7) sc_l_form.nd rfl (Or.inl rfl) (pe_fn Gc hr (by omega) rfl passL (pa_cons (pv 0) (pa_cons (pv 1) pa_nil))))
  (pss_cons (ps_for (passes_of rfl) (by rfl) (pi_range1 (by rfl) fx.b_range (pa_cons (pe_op op_mul (pe_op op_mod (pe_op op_fdiv (pv 7) pe_int) pe_int) (pe_callTy call_int1 (by rfl) fx.b_int bb_int (pa_cons (pe_cmpR op_eq (pe_op op_mod (pv 7) pe_int) pe_int (nomark _)) pa_nil))) pa_nil)) (pg_name (i := 8) sc_l_form.nd rfl (Or.inl rfl))
  (pss_cons (ps_set (i := 9) sc_l_form.nd rfl (Or.inl rfl) (pe_lst (pa_cons (pe_fn Go hr (by omega) rfl passL (pa_cons (pe_op op_cat (pe_lst (pa_cons (pe_tup (pa_cons pe_str (pa_cons (pe_ix ix_str (pe_fn0 Gm hr (by omega) rfl passL) (pe_op op_mod (pe_op op_add (pe_op op_fdiv (pv 7) pe_int) (pv 8)) pe_int) (fun _ _ => rfl)) pa_nil))) pa_nil)) (pv 6)) pa_nil)) (pa_cons (pe_tup pa_nil) pa_nil))))
  (pss_cons (ps_set (i := 10) sc_l_form.nd rfl (Or.inl rfl) (pe_op op_mod (pe_op op_mod (pe_op op_add (pv 7) (pe_op op_mul (pv 8) (pv 8))) pe_int) pe_int))
  (pss_cons (ps_set (i := 11) sc_l_form.nd rfl (Or.inl rfl) (pe_ix ix_list (pe_lst (pa_cons (pe_tup (pa_cons (pe_ix ix_list (pv 4) pe_int (fun _ _ => rfl)) pa_nil)) (pa_cons (pe_tup (pa_cons (pe_ix ix_list (pv 4) pe_int (fun _ _ => rfl)) (pa_cons (pe_ix ix_list (pv 4) pe_int (fun _ _ => rfl)) pa_nil))) pa_nil))) (pe_op op_mod (pv 8) pe_int) (fun _ _ => rfl)))
  (pss_one (ps_set (i := 6) sc_l_form.nd rfl (Or.inl rfl) (pe_lst (pa_cons (pe_tup (pa_cons pe_str (pa_cons (pv 11) (pa_cons (pe_ix ix_list (pv 9) (pv 10) (fun _ _ => rfl)) (pa_cons (pe_ix ix_list (pv 9) (pe_op op_sub pe_int (pv 10)) (fun _ _ => rfl)) pa_nil))))) (pa_cons (pe_tup (pa_cons pe_str (pa_cons pe_str pa_nil))) pa_nil)))))))))
  (pss_one (ps_ret (pe_tup (pa_cons (pe_fn Go hr (by omega) rfl passL (pa_cons (pv 6) pa_nil)) (pa_cons (pv 4) pa_nil)))))))))), go _ fun sp kk pre => (?_ : wS _ _ ⟨[some (.val (intsD cells)), some (.val (.adr sp)), some (.val (.int first)), some (.val (.bl tidy)), none, none, none, none, none, none, none, none], some sp, kk⟩ _)⟩
  obtain ⟨hcl, hk0, hk1⟩ : spK cells kk 4000 := pre
  have hC := Cn3
  try dsimp only [L2.cxOf]
  refine wS_seq ?_
  repeat' walk_at "y"
  refine ⟨first, trivial, rfl, fun dv hdv => ?_, fun _ => id⟩
  obtain ⟨nm, rfl, hnm⟩ : ∃ l, dv = strsD l ∧ nmOk l := hdv
  repeat' walk_at "y"
  refine wS_seq ?_
  repeat' walk_at "y"
  refine ⟨nm, hnm, rfl, fun dv hdv => ?_, fun _ => id⟩
  obtain ⟨sc, rfl, hsc, hsl⟩ : ∃ es, dv = scD es ∧ (∀ e ∈ es, okE e) ∧ es.length = 10 := hdv
  have hat : AtOk 3 sc nm := ⟨hsc, by omega, hnm⟩
  repeat' walk_at "y"
  refine wS_seq ?_
  repeat' walk_at "y"
  refine ⟨⟨cells, sc, nm, tidy, [], 0⟩, sp, ⟨⟨hcl, hk0, (by show kk + (Cn 3 : Int) ≤ 100000000; omega)⟩, hat⟩, rfl, rfl, fun v k2 hv => ?_⟩
  obtain ⟨hk2, hk3, L, rfl, hL⟩ : kk ≤ k2 ∧ k2 ≤ kk + (Cn 3 : Int) ∧ ∃ L, v = .lst (ndL L) ∧ NdG tidy 3 (pP 3) (rP 3) 4 L := hv
  repeat' walk_at "y"
  refine wS_seq ?_
  repeat' walk_at "y"
  refine ⟨cells, sp, ⟨hcl, (by show 0 ≤ k2; omega), (by show k2 ≤ 100000000; omega)⟩, rfl, rfl, fun v k' hv => ?_⟩
  obtain ⟨rfl, n, rfl⟩ : k' = k2 + 1 ∧ ∃ z : Nat, v = .int z := hv
  repeat' walk_at "y"
  refine wS_seq ?_
  repeat' walk_at "y"
  · exact .inr (by split <;> decide)
  obtain ⟨N, hN, hN20⟩ : ∃ N : Nat, (n : Int) / 9 % 21 * (if decide ((n : Int) % 9 = 1) = true then 1 else 0) = (N : Int) ∧ N ≤ 20 := by
    split
    · exact ⟨((n : Int) / 9 % 21).toNat, by omega, by omega⟩
    · exact ⟨0, by omega, by omega⟩
  rw [hN]
  refine ⟨by omega, by omega, fun i δ => ∃ (M : List Node) (o8 o9 o10 o11 : Option Cell), WrG tidy i M ∧ δ = ⟨[some (.val (intsD cells)), some (.val (.adr sp)), some (.val (.int first)), some (.val (.bl tidy)), some (.val (strsD nm)), some (.val (atD sc nm tidy)), some (.val (.lst (ndL M))), some (.val (.int n)), o8, o9, o10, o11], some sp, k2 + 1⟩,
    ⟨L, none, none, none, none, hL.wr, rfl⟩, ?_, ?_⟩
  · rintro i dd δ hdd ⟨M, o8, o9, o10, o11, hM, rfl⟩
    have hi : i < N := by
      have := (List.getElem?_eq_some_iff.mp hdd).1
      rwa [List.length_map, List.length_range, Int.toNat_natCast] at this
    obtain rfl : D.int i = dd := by
      rw [List.getElem?_map, List.getElem?_range (by rw [Int.toNat_natCast]; exact hi)] at hdd
      simpa using hdd
    repeat' walk_at "y"
    have hSGl : SG.length ≤ 16777216 := by rw [SG_len]; decide
    obtain ⟨i1, h11, h1l⟩ := mod_nat (z := (n : Int) / 189 + i) (m := 94) (by omega) (by decide)
    obtain ⟨m, h12, h13⟩ := SG_get (show i1 < 95 by omega)
    have hcl126 : SG[94]? = some 126 := by decide
    have h126 : (126 : Nat) ∈ SG := List.mem_of_getElem? hcl126
    have hne : m ≠ 126 := fun z => by
      subst z
      have := SG_inj h12 hcl126
      omega
    have hMl := hM.len
    have hMt := hM.tx
    have hMd := hM.dpb
    have one1 : vaL (.text [m] :: M) ∧ nkL (.text [m] :: M) ∧ dpL (.text [m] :: M) ≤ 30 ∧ (Node.text [m] :: M).length ≤ 1000 ∧ txL (.text [m] :: M) ≤ 100000 := by
      refine ⟨?_, ?_, ?_, ?_, ?_⟩
      · rw [vaL, vaN]; exact ⟨⟨by simp, sg1 h13⟩, gdL_va M hM.gd⟩
      · rw [nkL, nkN]; exact ⟨trivial, hM.nk⟩
      · rw [dpL, dpN]; omega
      · rw [List.length_cons]; omega
      · have e : txL (.text [m] :: M) = 1 + txL M := by simp [txL, txN]
        omega
    refine wS_seq ?_
    repeat' walk_at "y"
    refine ⟨(), trivial, rfl, fun dv hdv => ?_, fun _ => id⟩
    rw [hdv]
    repeat' walk_at "y"
    refine wR_ixS (n := i1) hSGl h11 h12 ?_
    repeat' walk_at "y"
    refine ⟨_, _, rfl, rfl, by rw [ndL_len]; simp; omega, ?_⟩
    repeat' walk_at "y"
    refine ⟨.text [m] :: M, one1, ?_, fun v hv => ?_, fun _ => id⟩
    · show [D.lst (D.tup [.str (cs "text"), .str [m]] :: ndL M)] = [D.lst (ndL (.text [m] :: M))]
      rw [ndL, nd_text]
    have hv : v = FD (one (.text [m] :: M)) := hv
    rw [hv]
    repeat' walk_at "y"
    refine wS_seq ?_
    repeat' walk_at "y"
    · exact .inr (by constructor <;> omega)
    obtain ⟨sd, hs1, hs2⟩ := mod_nat (z := ((n : Int) + (i : Int) * (i : Int)) % 3) (m := 2) (by omega) (by decide)
    have hs1 : ((n : Int) + (i : Int) * (i : Int)) % 3 % 2 = sd := hs1
    rw [hs1]
    obtain ⟨n3, hn3, hn3o⟩ := nm_get hnm (show 3 < 12 by omega)
    obtain ⟨n4, hn4, hn4o⟩ := nm_get hnm (show 4 < 12 by omega)
    have g3 : (nm.map D.str)[3]? = some (.str n3) := by rw [List.getElem?_map, hn3]; rfl
    have g4 : (nm.map D.str)[4]? = some (.str n4) := by rw [List.getElem?_map, hn4]; rfl
    obtain ⟨pi, hp1, hp2⟩ := mod_nat (z := (i : Int)) (m := 2) (by omega) (by decide)
    have hpath : ∃ p, [pthD [n3], pthD [n4, n3]][pi]? = some (pthD p) ∧ pOk p := by
      rcases pi with _ | _ | pi
      · exact ⟨_, rfl, fun u hu => by rw [List.mem_singleton.mp hu]; exact hn3o⟩
      · refine ⟨_, rfl, fun u hu => ?_⟩
        simp at hu
        rcases hu with rfl | rfl
        · exact hn4o
        · exact hn3o
      · omega
    obtain ⟨p, hpt, hpo⟩ := hpath
    have bA := hM.bd h13
    obtain ⟨m2, hm2, hm21, hm22⟩ : ∃ m2, m2 ∈ SG ∧ m ≠ m2 ∧ m2 ≠ 126 := by
      by_cases e : m = 32
      · exact ⟨33, by decide, by omega, by decide⟩
      · exact ⟨32, by decide, e, by decide⟩
    have eF : FD [] = D.tup [] := by
      show D.tup (ndL []) = D.tup []
      rw [ndL]
    have e1 : one (.text [m] :: M) = sideOf m (some M) := rfl
    refine wS_seq ?_
    repeat' walk_at "y"
    refine wR_ixL (n := 3) rfl g3 ?_
    repeat' walk_at "y"
    refine wR_ixL (n := 4) rfl g4 ?_
    repeat' walk_at "y"
    refine wR_ixL (n := 3) rfl g3 ?_
    repeat' walk_at "y"
    refine wR_ixL (n := pi) hp1 hpt ?_
    repeat' walk_at "y"
    rcases sd with _ | _ | sd
    · refine wR_ixL (n := 0) rfl rfl ?_
      repeat' walk_at "y"
      refine wR_ixL (n := 1) rfl rfl ?_
      repeat' walk_at "y"
      have td : tidy = true → TD [.choice p (one (.text [m] :: M)) [], .text [126]] := fun ht => by
        rw [e1]
        exact td_choice (L2 := none) h13 hm2 h126 hm21 hne hm22 (fun L h => by cases h; exact hM.td ht) (fun L h => by cases h) (.inl (by simp))
      refine ⟨[.choice p (one (.text [m] :: M)) [], .text [126]], some (.val (.int i)), some (.val (.lst [FD (one (.text [m] :: M)), .tup []])), some (.val (.int 0)), some (.val (pthD p)), WrG.step hpo bA BdG.nil h126 td, ?_⟩
      rw [show ndL [Node.choice p (one (.text [m] :: M)) [], .text [126]] = [D.tup [.str (cs "choice"), pthD p, FD (one (.text [m] :: M)), .tup []], .tup [.str (cs "text"), .str [126]]] from by rw [ndL, ndL, ndL, nd_text, ndN, ndL]]
      rfl
    · refine wR_ixL (n := 1) rfl rfl ?_
      repeat' walk_at "y"
      refine wR_ixL (n := 0) rfl rfl ?_
      repeat' walk_at "y"
      have td : tidy = true → TD [.choice p [] (one (.text [m] :: M)), .text [126]] := fun ht => by
        rw [e1]
        exact td_choice (L1 := none) hm2 h13 h126 (Ne.symm hm21) hm22 hne (fun L h => by cases h) (fun L h => by cases h; exact hM.td ht) (.inr (by simp))
      refine ⟨[.choice p [] (one (.text [m] :: M)), .text [126]], some (.val (.int i)), some (.val (.lst [FD (one (.text [m] :: M)), .tup []])), some (.val (.int 1)), some (.val (pthD p)), WrG.step hpo BdG.nil bA h126 td, ?_⟩
      rw [show ndL [Node.choice p [] (one (.text [m] :: M)), .text [126]] = [D.tup [.str (cs "choice"), pthD p, .tup [], FD (one (.text [m] :: M))], .tup [.str (cs "text"), .str [126]]] from by rw [ndL, ndL, ndL, nd_text, ndN, ndL]]
      rfl
    · omega
  · rintro δ ⟨M, o8, o9, o10, o11, hM, rfl⟩
    repeat' walk_at "v"
    have hMl := hM.len
    have hMt := hM.tx
    have hMd := hM.dpb
    refine ⟨M, ⟨gdL_va M hM.gd, hM.nk, by simp at hMd; omega, by omega, by omega⟩, rfl, fun v hv => ?_, fun _ => id⟩
    have hv : v = FD (one M) := hv
    rw [hv]
    repeat' walk_at "v"
    exact ⟨(by show kk ≤ k2 + 1; omega), (by show k2 + 1 ≤ kk + 4000; omega), one M, nm, rfl, hM.fm (by simp; omega)⟩
end

/-! W23: values. -/
abbrev s_l_figure : Stmt := top 72
abbrev N_l_figure : List Str := ["_law_n"]
theorem sc_l_figure : FnScope N_l_figure ["_law_n"] (defScope s_l_figure) := ⟨rfl, rfl, rfl, by decide +kernel, rfl, by decide +kernel, by decide +kernel⟩
def cFig : CtA Nat := { args := fun n => [.int n], post := fun _ d => ∃ i : Int, d = .int i ∧ -(10 : Int) ^ 30 < i ∧ i < (10 : Int) ^ 30 }
section
variable {P : Program} {w : World} {K : PySem.W.Frag} {mg : Str → Option Value} {base : Heap} {f : Addr} {fd : FuncData} {wc : Way → Addr} {nf : Addr} {k : Nat}
theorem ok_l_figure (fx : Fx K mg wc nf) (F : FnP K "_law_figure" "_law_figure" s_l_figure f fd) : FnOk P w K mg base (L2.CX P w) (k + 1) f fd ["_law_n"] (spA K wc nf cFig) := by
  refine F.ok sc_l_figure (spA_len fun a _ => rfl) fun cdv A outer s H vs Q E hr h => ?_
  obtain ⟨n, pre, go⟩ := pure_A (N := N_l_figure) (fun a _ => by simp [cFig]) h
  refine ⟨_, (pss_one (ps_ret (pe_ix ix_list (pe_lst (pa_cons (pe_op op_sub (pe_op op_mod (pv 0) pe_int) pe_int) (pa_cons (pe_op op_mod (pv 0) pe_int) (pa_cons (pe_op op_sub pe_int (pe_op op_mod (pv 0) pe_int)) (pa_cons (pe_op op_mod (pe_op op_mul (pv 0) (pe_op op_pow pe_int pe_int)) (pe_op op_pow pe_int pe_int)) (pa_cons (pe_op op_sub (pe_op op_sub (pe_op op_pow pe_int pe_int) pe_int) (pe_op op_mod (pv 0) pe_int)) (pa_cons pe_int pa_nil))))))) (pe_op op_mod (pe_op op_fdiv (pv 0) pe_int) pe_int) (fun _ _ => rfl)))), go _ (?_ : wS _ _ ⟨[some (.val (.int n))], none, 0⟩ _)⟩
  try dsimp only [L2.cxOf]
  have hp4 : CPow 48271 4 := ⟨by decide, by decide, by decide⟩
  have hp30 : CPow 10 30 := ⟨by decide, by decide, by decide⟩
  repeat' walk_at "v"
  any_goals (first | exact hp4 | exact hp30 | exact .inr ⟨by decide, by decide⟩ | decide)
  have e30 : (10 : Int) ^ Int.toNat 30 = 1000000000000000000000000000000 := by decide
  have e30' : (10 : Int) ^ 30 = 1000000000000000000000000000000 := by decide
  rw [e30]
  obtain ⟨j, hj1, hj2⟩ := mod_nat (z := (n : Int) / 7) (m := 6) (by omega) (by decide)
  have last : ∀ i : Int, -(1000000000000000000000000000000 : Int) < i → i < 1000000000000000000000000000000 → cFig.post n (.int i) := fun i h1 h2 => ⟨i, rfl, by rw [e30']; exact h1, by rw [e30']; exact h2⟩
  rcases j with _ | _ | _ | _ | _ | _ | j
  · exact wR_ixL (n := 0) hj1 rfl (last _ (by omega) (by omega))
  · exact wR_ixL (n := 1) hj1 rfl (last _ (by omega) (by omega))
  · exact wR_ixL (n := 2) hj1 rfl (last _ (by omega) (by omega))
  · refine wR_ixL (n := 3) hj1 rfl (last _ ?_ ?_)
    · generalize (n : Int) * 48271 ^ Int.toNat 4 = z
      omega
    · generalize (n : Int) * 48271 ^ Int.toNat 4 = z
      omega
  · exact wR_ixL (n := 4) hj1 rfl (last _ (by omega) (by omega))
  · exact wR_ixL (n := 5) hj1 rfl (last _ (by omega) (by omega))
  · omega
end

/-! W24: values, second. -/
abbrev s_l_value : Stmt := top 73
abbrev N_l_value : List Str := ["_law_kind", "_law_n", "_law_odd", "_law_some", "_law_size", "_law_k"]
theorem sc_l_value : FnScope N_l_value ["_law_kind", "_law_n", "_law_odd"] (defScope s_l_value) := ⟨rfl, rfl, rfl, by decide +kernel, rfl, by decide +kernel, by decide +kernel⟩
theorem AL_len : ALN.length = 62 := by decide
theorem AL_get {j : Nat} (h : j < 62) : ∃ c, ALN[j]? = some c ∧ c ∈ ALN :=
  ⟨ALN[j]'(by rw [AL_len]; exact h), List.getElem?_eq_getElem _, List.getElem_mem _⟩
def kdW : Way → T
  | .word => [119]
  | .number => [110]
  | _ => [116]
def cVal : CtA (Way × Nat) := { args := fun a => [.str (kdW a.1), .int a.2, .bl false], post := fun a d => ∃ v, d = vlD v ∧ fits a.1 v = true }
section
variable {P : Program} {w : World} {K : PySem.W.Frag} {mg : Str → Option Value} {base : Heap} {f : Addr} {fd : FuncData} {wc : Way → Addr} {nf : Addr} {k : Nat}
theorem ok_l_value (fx : Fx K mg wc nf) (F : FnP K "_law_value" "_law_value" s_l_value f fd) (Gf : Fn P w K mg base "_law_figure" ["_law_n"] k (spA K wc nf cFig)) (Gm : Fn P w K mg base "_law_marks" [] k (spA K wc nf cMarks)) : FnOk P w K mg base (L2.CX P w) (k + 1) f fd ["_law_kind", "_law_n", "_law_odd"] (spA K wc nf cVal) := by
  refine F.ok sc_l_value (spA_len fun a _ => rfl) fun cdv A outer s H vs Q E hr h => ?_
  obtain ⟨⟨v, n⟩, pre, go⟩ := pure_A (N := N_l_value) (fun a _ => by simp [cVal]) h
  refine ⟨_, (pss_cons (ps_if (PW.pt (pw_and (pt_val (pv 2)) (pw_and1 (pt_cmpR op_eq (pe_op op_mod (pe_op op_fdiv (pv 1) pe_int) pe_int) pe_int (nomark _)))))
  (pss_one (ps_ret (pe_ix ix_list (pe_lst (pa_cons pe_int (pa_cons pe_str (pa_cons pe_bl (pa_cons (pe_lst pa_nil) (pa_cons pe_dnewT (pa_cons pe_str (pa_cons (pe_lst (pa_cons pe_str pa_nil)) (pa_cons (pe_op op_pow pe_int pe_int) (pa_cons pe_int (pa_cons pe_int pa_nil))))))))))) (pe_op op_mod (pe_op op_fdiv (pv 1) pe_int) pe_int) (fun _ _ => rfl))))
  pss_nil)
  (pss_cons (ps_if (pt_cmpR op_eq (pv 0) pe_str (nomark _))
  (pss_one (ps_ret (pe_fn Gf hr (by omega) rfl passL (pa_cons (pv 1) pa_nil))))
  pss_nil)
  (pss_cons (ps_if (pt_cmpR op_eq (pv 0) pe_str (nomark _))
  (pss_one (ps_ret (pe_ifExp (PW.pt (pw_and (pt_val (pv 2)) (pw_and1 (pt_cmpR op_eq (pe_op op_mod (pe_op op_fdiv (pv 1) pe_int) pe_int) pe_int (nomark _))))) (pe_callTy call_int1 (by rfl) fx.b_int bb_int (pa_cons (pe_op op_mod (pe_op op_fdiv (pv 1) pe_int) pe_int) pa_nil)) (pe_cmpR op_eq (pe_op op_mod (pe_op op_fdiv (pv 1) pe_int) pe_int) pe_int (nomark _)))))
  pss_nil)
  (pss_cons (ps_if (pt_cmpR op_eq (pv 0) pe_str (nomark _))
  (pss_cons (ps_set (i := 3) sc_l_value.nd rfl (Or.inr rfl) pe_str)
  (pss_cons (ps_set (i := 4) sc_l_value.nd rfl (Or.inl rfl) (pe_ix ix_list (pe_lst (pa_cons (pe_op op_add pe_int (pe_op op_mod (pv 1) pe_int)) (pa_cons (pe_op op_add pe_int (pe_op op_mod (pv 1) pe_int)) (pa_cons pe_int pa_nil)))) (pe_op op_add (pe_callTy call_int1 (by rfl) fx.b_int bb_int (pa_cons (pe_cmpR op_eq (pe_op op_mod (pe_op op_fdiv (pv 1) pe_int) pe_int) pe_int (nomark _)) pa_nil)) (pe_callTy call_int1 (by rfl) fx.b_int bb_int (pa_cons (pe_cmpR op_eq (pe_op op_mod (pe_op op_fdiv (pv 1) pe_int) pe_int) pe_int (nomark _)) pa_nil))) (fun _ _ => rfl)))
  (pss_one (ps_ret (pe_join pe_str (pe_lc (own := [("_law_k", 5)]) (by rfl) sc_l_value.nd (pi_range1 (by rfl) fx.b_range (pa_cons (pv 4) pa_nil)) (blkOk_by (own := [("_law_k", 5)]) (N := N_l_value) (sc := defScope s_l_value) (by decide +kernel)) (fun _ _ _ _ _ => (pg_name (i := 5) sc_l_value.nd rfl (Or.inl rfl))) (fun _ _ _ _ _ => pts_nil) (fun _ _ _ _ _ => (pe_ix ix_str (pv 3) (pe_op op_mod (pe_op op_add (pe_op op_fdiv (pv 1) pe_int) (pe_op op_mul (pv 5) (pe_op op_add pe_int (pe_op op_mod (pe_op op_fdiv (pv 1) pe_int) pe_int)))) pe_int) (fun _ _ => rfl)))))))))
  pss_nil)
  (pss_cons (ps_set (i := 4) sc_l_value.nd rfl (Or.inl rfl) (pe_ix ix_list (pe_lst (pa_cons (pe_op op_mod (pv 1) pe_int) (pa_cons (pe_op op_mod (pv 1) pe_int) (pa_cons (pe_op op_sub pe_int (pe_op op_mod (pv 1) pe_int)) pa_nil)))) (pe_op op_add (pe_callTy call_int1 (by rfl) fx.b_int bb_int (pa_cons (pe_cmpR op_eq (pe_op op_mod (pe_op op_fdiv (pv 1) pe_int) pe_int) pe_int (nomark _)) pa_nil)) (pe_callTy call_int1 (by rfl) fx.b_int bb_int (pa_cons (pe_cmpR op_eq (pe_op op_mod (pe_op op_fdiv (pv 1) pe_int) pe_int) pe_int (nomark _)) pa_nil))) (fun _ _ => rfl)))
  (pss_one (ps_ret (pe_join pe_str (pe_lc (own := [("_law_k", 5)]) (by rfl) sc_l_value.nd (pi_range1 (by rfl) fx.b_range (pa_cons (pv 4) pa_nil)) (blkOk_by (own := [("_law_k", 5)]) (N := N_l_value) (sc := defScope s_l_value) (by decide +kernel)) (fun _ _ _ _ _ => (pg_name (i := 5) sc_l_value.nd rfl (Or.inl rfl))) (fun _ _ _ _ _ => pts_nil) (fun _ _ _ _ _ => (pe_ix ix_str (pe_fn0 Gm hr (by omega) rfl passL) (pe_op op_mod (pe_op op_add (pe_op op_fdiv (pv 1) pe_int) (pe_op op_mul (pv 5) (pe_op op_add pe_int (pe_op op_mod (pe_op op_fdiv (pv 1) pe_int) pe_int)))) pe_int) (fun _ _ => rfl)))))))))))), go _ (?_ : wS _ _ ⟨[some (.val (.str (kdW v))), some (.val (.int n)), some (.val (.bl false)), none, none, none], none, 0⟩ _)⟩
  try dsimp only [L2.cxOf]
  repeat' walk_at "v"
  refine ite_b (fun hb => ?_) fun hb => ?_
  · obtain rfl : v = .number := by cases v <;> first | rfl | (exact absurd (of_decide_eq_true hb) (by decide))
    repeat' walk_at "v"
    refine ⟨n, trivial, rfl, fun dv hdv => ?_, fun _ => id⟩
    obtain ⟨i, rfl, h1, h2⟩ : ∃ i : Int, dv = .int i ∧ -(10 : Int) ^ 30 < i ∧ i < (10 : Int) ^ 30 := hdv
    exact ⟨.num i, rfl, by show (decide (-(10 : Int) ^ 30 < i) && decide (i < (10 : Int) ^ 30)) = true; rw [decide_eq_true h1, decide_eq_true h2]; rfl⟩
  · repeat' walk_at "v"
    refine ite_b (fun hb2 => ?_) fun hb2 => ?_
    · exact absurd (of_decide_eq_true hb2) (by cases v <;> decide)
    repeat' walk_at "v"
    refine ite_b (fun hb3 => ?_) fun hb3 => ?_
    · obtain rfl : v = .word := by cases v <;> first | rfl | (exact absurd (of_decide_eq_true hb3) (by decide))
      refine wS_seq ?_
      repeat' walk_at "y"
      refine wS_cut (I := fun δ => ∃ m : Nat, (1 ≤ m ∧ m ≤ 40) ∧ δ = ⟨[some (.val (.str (kdW .word))), some (.val (.int n)), some (.val (.bl false)), some (.val (.str (cs "abcdefghijklmnopqrstuvwxyzABCDEFGHIJKLMNOPQRSTUVWXYZ0123456789"))), some (.val (.int m)), none], none, 0⟩) ?_ ?_
      · repeat' walk_at "v"
        have key : ∀ x : Int, x = 0 ∨ x = 1 ∨ x = 2 → ∃ (j m : Nat), x = (j : Int) ∧ [D.int (1 + (n : Int) % 6), D.int (1 + (n : Int) % 40), D.int 40][j]? = some (.int m) ∧ (1 ≤ m ∧ m ≤ 40) := fun x hx => by
          rcases hx with rfl | rfl | rfl
          · exact ⟨0, 1 + n % 6, rfl, rfl, by omega⟩
          · exact ⟨1, 1 + n % 40, rfl, rfl, by omega⟩
          · exact ⟨2, 40, rfl, rfl, by omega⟩
        obtain ⟨j, m, hj, hg, hm⟩ := key ((if decide ((n : Int) / 40 % 6 = 1) = true then 1 else 0) + if decide ((n : Int) / 40 % 24 = 1) = true then 1 else 0) (by split <;> split <;> omega)
        refine wR_ixL (n := j) hj hg ?_
        exact ⟨m, hm, rfl⟩
      · rintro δ ⟨m, hm, rfl⟩
        rw [show cs "abcdefghijklmnopqrstuvwxyzABCDEFGHIJKLMNOPQRSTUVWXYZ0123456789" = ALN from by decide]
        repeat' walk_at "v"
        refine wE_lc (gw_name (by simp)) ?_
        repeat' walk_at "v"
        refine ⟨by omega, by omega, fun i acc kk => kk = 0 ∧ ∃ t : T, acc = (t.map fun c => [c]).map D.str ∧ (∀ c ∈ t, c ∈ ALN) ∧ t.length = i, ⟨rfl, [], rfl, by simp, rfl⟩, ?_, ?_⟩
        · rintro i d acc kk hd ⟨rfl, t, rfl, ht, hl⟩
          rw [List.getElem?_map] at hd
          obtain ⟨i', hi', rfl⟩ := Option.map_eq_some_iff.mp hd
          have hlt := (List.getElem?_eq_some_iff.mp hi').1
          rw [List.length_range] at hlt
          rw [List.getElem?_range hlt] at hi'
          cases hi'
          repeat' walk_at "v"
          · exact .inl ⟨by have : (2 : Int) ^ 64 = 18446744073709551616 := by decide
                           omega, by have : (2 : Int) ^ 64 = 18446744073709551616 := by decide
                                     omega⟩
          obtain ⟨j, hj1, hj2⟩ := mod_int (z := (n : Int) / 240 + (i : Int) * (1 + (n : Int) / 9 % 61)) (m := 62) (by decide)
          obtain ⟨c, hc, hcS⟩ := AL_get hj2
          refine wR_ixS (n := j) (by decide) hj1 hc ?_
          refine ⟨by simp; omega, rfl, t ++ [c], by simp, (fun x hx => by rcases List.mem_append.mp hx with hx | hx; exact ht x hx; rw [List.mem_singleton.mp hx]; exact hcS), by simp [hl]⟩
        · rintro acc kk ⟨rfl, t, rfl, ht, hl⟩
          repeat' walk_at "v"
          rw [cps_nil]
          rw [List.length_map, List.length_range, Int.toNat_natCast] at hl
          refine ⟨by rw [signs_len]; simp; omega, ?_⟩
          rw [join_signs]
          have hl' : t.length = m := by omega
          have hall : (t.all fun c => decide (c ∈ ALN)) = true := List.all_eq_true.mpr fun c hc => decide_eq_true (ht c hc)
          exact ⟨.txt t, rfl, by
            show (decide (1 ≤ t.length) && decide (t.length ≤ 40) && t.all (fun c => decide (c ∈ ALN))) = true
            rw [hall, decide_eq_true (show 1 ≤ t.length by omega), decide_eq_true (show t.length ≤ 40 by omega)]; rfl⟩
    · refine wS_next ?_
      refine wS_cut (I := fun δ => ∃ m : Nat, m ≤ 400 ∧ δ = ⟨[some (.val (.str (kdW v))), some (.val (.int n)), some (.val (.bl false)), none, some (.val (.int m)), none], none, 0⟩) ?_ ?_
      · repeat' walk_at "v"
        have key : ∀ x : Int, x = 0 ∨ x = 1 ∨ x = 2 → ∃ (j m : Nat), x = (j : Int) ∧ [D.int ((n : Int) % 7), D.int ((n : Int) % 40), D.int (400 - (n : Int) % 3)][j]? = some (.int m) ∧ m ≤ 400 := fun x hx => by
          rcases hx with rfl | rfl | rfl
          · exact ⟨0, n % 7, rfl, rfl, by omega⟩
          · exact ⟨1, n % 40, rfl, rfl, by omega⟩
          · exact ⟨2, 400 - n % 3, rfl, by show some (D.int (400 - (n : Int) % 3)) = _; congr 2; omega, by omega⟩
        obtain ⟨j, m, hj, hg, hm⟩ := key ((if decide ((n : Int) / 40 % 6 = 1) = true then 1 else 0) + if decide ((n : Int) / 40 % 36 = 1) = true then 1 else 0) (by split <;> split <;> omega)
        refine wR_ixL (n := j) hj hg ?_
        exact ⟨m, hm, rfl⟩
      · rintro δ ⟨m, hm, rfl⟩
        repeat' walk_at "v"
        refine wE_lc (gw_name (by simp)) ?_
        repeat' walk_at "v"
        refine ⟨by omega, by omega, fun i acc kk => kk = 0 ∧ ∃ t : T, acc = (t.map fun c => [c]).map D.str ∧ allSG t = true ∧ t.length = i, ⟨rfl, [], rfl, rfl, rfl⟩, ?_, ?_⟩
        · rintro i d acc kk hd ⟨rfl, t, rfl, ht, hl⟩
          rw [List.getElem?_map] at hd
          obtain ⟨i', hi', rfl⟩ := Option.map_eq_some_iff.mp hd
          have hlt := (List.getElem?_eq_some_iff.mp hi').1
          rw [List.length_range] at hlt
          rw [List.getElem?_range hlt] at hi'
          cases hi'
          repeat' walk_at "v"
          refine ⟨(), trivial, rfl, fun d hd => ?_, fun _ => id⟩
          rw [hd]
          repeat' walk_at "v"
          · exact .inl ⟨by have : (2 : Int) ^ 64 = 18446744073709551616 := by decide
                           omega, by have : (2 : Int) ^ 64 = 18446744073709551616 := by decide
                                     omega⟩
          obtain ⟨j, hj1, hj2⟩ := mod_int (z := (n : Int) / 240 + (i : Int) * (1 + (n : Int) / 9 % 94)) (m := 95) (by decide)
          obtain ⟨c, hc, hcS⟩ := SG_get hj2
          refine wR_ixS (n := j) (by rw [SG_len]; decide) hj1 hc ?_
          refine ⟨by simp; omega, rfl, t ++ [c], by simp, allSG_app.mpr ⟨ht, allSG_cons.mpr ⟨hcS, rfl⟩⟩, by simp [hl]⟩
        · rintro acc kk ⟨rfl, t, rfl, ht, hl⟩
          repeat' walk_at "v"
          rw [cps_nil]
          rw [List.length_map, List.length_range, Int.toNat_natCast] at hl
          refine ⟨by rw [signs_len]; simp; omega, ?_⟩
          rw [join_signs]
          have h400 : t.length ≤ 400 := by omega
          refine ⟨.txt t, rfl, ?_⟩
          cases v with
          | word => exact absurd hb3 (by decide)
          | number => exact absurd hb (by decide)
          | quoted => show (decide (t.length ≤ 400) && allSG t) = true; rw [decide_eq_true h400, ht]; rfl
          | plain => show (decide (t.length ≤ 400) && allSG t) = true; rw [decide_eq_true h400, ht]; rfl
          | line => show (decide (t.length ≤ 400) && allSG t) = true; rw [decide_eq_true h400, ht]; rfl
end

/-! W25: fills. -/
abbrev s_l_fill : Stmt := top 78
abbrev N_l_fill : List Str := ["_law_cells", "_law_spot", "_law_nodes_here", "_law_fill_here", "_law_node", "_law_n", "_law_many", "_law_k"]
theorem sc_l_fill : FnScope N_l_fill ["_law_cells", "_law_spot", "_law_nodes_here"] (defScope s_l_fill) := ⟨rfl, rfl, rfl, by decide +kernel, rfl, by decide +kernel, by decide +kernel⟩
/-- the spot may go so far -/
def flK (k : Nat) (L : List Node) : Prop := (k < 150 → 150 + rbL L ≤ 90000000) ∧ (150 ≤ k → k + pdL L ≤ 90000000) ∧ k ≤ 90000000
def cFil (m : Nat) : CtB (List Int × List Node) := { args := fun s a => [intsD a.1, .adr s, FD a.2], pre := fun a k => a.1.length ≤ 1000 ∧ (∃ j : Nat, k = j ∧ flK j a.2) ∧ gdL a.2 ∧ dpL a.2 < m, post := fun a k v k' => ∃ (j j' : Nat) (fs : List Fill), k = j ∧ k' = j' ∧ v = .lst (fiL fs) ∧ Dr j a.2 fs j' }
def flN (j : Nat) (x : Node) : Prop := (j < 150 → 150 + rbN x ≤ 90000000) ∧ (150 ≤ j → j + pdN x ≤ 90000000) ∧ j ≤ 90000000
theorem flN_of {k0 i j : Nat} {L : List Node} {x : Node} {fs : List Fill} (h : flK k0 L) (hx : L[i]? = some x) (hD : Dr k0 (L.take i) fs j) : flN j x := by
  obtain ⟨h1, h2, h3⟩ := h
  have hi := (List.getElem?_eq_some_iff.mp hx).1
  have e : L = L.take i ++ (x :: L.drop (i + 1)) := by
    conv => lhs; rw [← List.take_append_drop i L]
    rw [List.drop_eq_getElem_cons hi, (List.getElem?_eq_some_iff.mp hx).2]
  have r1 : rbL L = max (rbL (L.take i) + pdL (x :: L.drop (i + 1))) (rbL (x :: L.drop (i + 1))) := by
    conv => lhs; rw [e]
    exact rbL_app _ _
  have p1 : pdL L = pdL (L.take i) + pdL (x :: L.drop (i + 1)) := by
    conv => lhs; rw [e]
    exact pdL_app _ _
  rw [rbL, pdL] at r1
  rw [pdL] at p1
  have hc := hD.cnt
  have hb := hD.beh
  have ha := hD.all
  have hp := pd_le_rbN x
  refine ⟨fun q => ?_, fun q => ?_, ?_⟩
  · have := h1 (by omega); omega
  · by_cases h150 : 150 ≤ k0
    · have := hb h150; have := h2 h150; omega
    · have := h1 (by omega); omega
  · by_cases h150 : 150 ≤ k0
    · have := hb h150; have := h2 h150; omega
    · have := h1 (by omega); omega
theorem flN_choice {j : Nat} {p : List T} {y n : List Node} (b : Bool) (h : flN j (.choice p y n)) : flK (j + 1) (if b then y else n) := by
  obtain ⟨h1, h2, h3⟩ := h
  rw [rbN] at h1
  rw [pdN] at h2
  have p1 := pd_le_rbL y
  have p2 := pd_le_rbL n
  cases b <;> refine ⟨fun q => ?_, fun q => ?_, ?_⟩ <;> by_cases hj : j < 150 <;> simp [hj] at h1 h2 ⊢ <;> omega
theorem flN_loop {j k1 : Nat} {nm : T} {p : List T} {b : List Node} {btw : T} {rs : List (List Fill)} (h : flN j (.loop nm p b btw)) (hD : DrR (j + 1) b rs k1) (hl : rs.length ≤ 42) (hj : j + 1 < 150) : flK k1 b := by
  obtain ⟨h1, h2, h3⟩ := h
  rw [rbN] at h1
  have := h1 (by omega)
  have ha := hD.all
  have hm : rs.length * pdL b ≤ 42 * pdL b := Nat.mul_le_mul_right _ hl
  exact ⟨fun q => by omega, fun q => by omega, by omega⟩
theorem okL_len : ∀ {ns : List Node} {fs : List Fill}, okL ns fs → fs.length ≤ ns.length
  | [], [], _ => by simp
  | [], _ :: _, h => by simp [okL] at h
  | .text _ :: ns, fs, h => by
    rw [okL] at h
    have := okL_len h
    rw [List.length_cons]; omega
  | .place _ _ :: ns, [], _ => by simp
  | .loop _ _ _ _ :: ns, [], _ => by simp
  | .choice _ _ _ :: ns, [], _ => by simp
  | .place p w :: ns, f :: fs, h => by
    have h' : okN (.place p w) f ∧ okL ns fs := h
    have := okL_len h'.2
    rw [List.length_cons, List.length_cons]; omega
  | .loop a p b c :: ns, f :: fs, h => by
    have h' : okN (.loop a p b c) f ∧ okL ns fs := h
    have := okL_len h'.2
    rw [List.length_cons, List.length_cons]; omega
  | .choice p y n :: ns, f :: fs, h => by
    have h' : okN (.choice p y n) f ∧ okL ns fs := h
    have := okL_len h'.2
    rw [List.length_cons, List.length_cons]; omega
theorem rng_get' {m i : Nat} {d : D} (h : ((List.range (m : Int).toNat).map fun (j : Nat) => D.int (j : Int))[i]? = some d) : i < m ∧ d = .int (i : Int) := by
  rw [List.getElem?_map, Int.toNat_natCast] at h
  obtain ⟨i', hi', rfl⟩ := Option.map_eq_some_iff.mp h
  have hlt := (List.getElem?_eq_some_iff.mp hi').1
  rw [List.length_range] at hlt
  rw [List.getElem?_range hlt] at hi'
  cases hi'
  exact ⟨hlt, rfl⟩
theorem fiL_len (fs : List Fill) : (fiL fs).length = fs.length := by rw [fiL_map, List.length_map]
theorem fiR_len (rs : List (List Fill)) : (fiR rs).length = rs.length := by rw [fiR_map, List.length_map]
theorem fiL_snoc (fs : List Fill) (f : Fill) : fiL (fs ++ [f]) = fiL fs ++ [fiD f] := by rw [fiL_map, fiL_map, List.map_append]; rfl
theorem fiR_snoc (rs : List (List Fill)) (f : List Fill) : fiR (rs ++ [f]) = fiR rs ++ [.lst (fiL f)] := by rw [fiR_map, fiR_map, List.map_append]; rfl
section
variable {P : Program} {w : World} {K : PySem.W.Frag} {mg : Str → Option Value} {base : Heap} {f : Addr} {fd : FuncData} {wc : Way → Addr} {nf : Addr} {k : Nat}
theorem ok_l_fill {m : Nat} (fx : Fx K mg wc nf) (F : FnP K "_law_fill" "_law_fill" s_l_fill f fd) (Gc : Fn P w K mg base "_law_cell" ["_law_cells", "_law_spot"] k (spB K wc cCell)) (Gv : Fn P w K mg base "_law_value" ["_law_kind", "_law_n", "_law_odd"] k (spA K wc nf cVal))
    (Gf : Fn P w K mg base "_law_fill" ["_law_cells", "_law_spot", "_law_nodes_here"] k (spB K wc (cFil m))) : FnOk P w K mg base (L2.CX P w) (k + 1) f fd ["_law_cells", "_law_spot", "_law_nodes_here"] (spB K wc (cFil (m + 1))) := by
  refine F.ok sc_l_fill (spB_len fun _ _ _ _ => rfl) fun cdv A outer s H vs Q E hr h => ?_
  obtain ⟨a, go⟩ := pure_B (nf := nf) (N := N_l_fill) (fun _ _ _ _ => by simp [cFil]) h
  obtain ⟨cells, L⟩ := a
  have hu : (A.deeper (envOfC (Str.ofString "_law_fill") (defScope s_l_fill) s.heap.objs.size f cdv)).units + 1 < cLine := by have := hu64 hr; omega
  refine ⟨_, (pss_cons (ps_set (i := 3) sc_l_fill.nd rfl (Or.inl rfl) (pe_lst pa_nil))
  (pss_cons (ps_for (passes_of rfl) (by rfl) (pi_tup (pv 2)) (pg_name (i := 4) sc_l_fill.nd rfl (Or.inr rfl))
  (pss_cons (ps_if (pt_cmpR op_eq (pe_ix ix_tup (pv 4) pe_int (fun _ _ => rfl)) pe_str (nomark _))
  (pss_one ps_continue)
  pss_nil)
  (pss_cons (ps_set (i := 5) sc_l_fill.nd rfl (Or.inl rfl) (pe_fn Gc hr (by omega) rfl passL (pa_cons (pv 0) (pa_cons (pv 1) pa_nil))))
  (pss_one (ps_if (pt_cmpR op_eq (pe_ix ix_tup (pv 4) pe_int (fun _ _ => rfl)) pe_str (nomark _))
  (pss_one (ps_expr (pe_bm PySem.F.plainAttrs_list PySem.F.slot_list_append PySem.F.type_list_append mt_append (pv 3) (pa_cons (pe_fn Gv hr (by omega) rfl passL (pa_cons (pe_dget2 hu (pe_disp (pps_cons pe_str pe_str (pps_cons pe_str pe_str pps_nil)) rfl rfl (fun z => by cases z) (by decide)) (pe_ix ix_tup (pv 4) pe_int (fun _ _ => rfl)) pe_str ⟨rfl, rfl, rfl, rfl⟩) (pa_cons (pv 5) (pa_cons pe_bl pa_nil)))) pa_nil))))
  (pss_one (ps_if (pt_cmpR op_eq (pe_ix ix_tup (pv 4) pe_int (fun _ _ => rfl)) pe_str (nomark _))
  (pss_one (ps_expr (pe_bm PySem.F.plainAttrs_list PySem.F.slot_list_append PySem.F.type_list_append mt_append (pv 3) (pa_cons (pe_tup (pa_cons (pe_cmpR op_eq (pe_op op_mod (pe_op op_fdiv (pv 5) pe_int) pe_int) pe_int (nomark _)) (pa_cons (pe_fn Gf hr (by omega) rfl passL (pa_cons (pv 0) (pa_cons (pv 1) (pa_cons (pe_ix ix_tup (pv 4) (pe_op op_add pe_int (pe_op op_mod (pe_op op_fdiv (pv 5) pe_int) pe_int)) (fun _ _ => rfl)) pa_nil)))) pa_nil))) pa_nil))))
  (pss_cons (ps_set (i := 6) sc_l_fill.nd rfl (Or.inl rfl) (pe_ix ix_list (pe_lst (pa_cons pe_int (pa_cons pe_int (pa_cons pe_int (pa_cons pe_int (pa_cons pe_int (pa_cons pe_int pa_nil))))))) (pe_op op_mod (pe_op op_fdiv (pv 5) pe_int) pe_int) (fun _ _ => rfl)))
  (pss_cons (ps_if (PW.pt (pw_and (pt_cmpR op_eq (pe_op op_mod (pe_op op_fdiv (pv 5) pe_int) pe_int) pe_int (nomark _)) (pw_and1 (pt_cmpR op_lt (pe_callB call_len_seq (by rfl) fx.b_len bb_len (pa_cons (pe_ix ix_tup (pv 4) pe_int (fun _ _ => rfl)) pa_nil)) pe_int (nomark _)))))
  (pss_one (ps_set (i := 6) sc_l_fill.nd rfl (Or.inl rfl) (pe_op op_add pe_int (pe_op op_mod (pv 5) pe_int))))
  pss_nil)
  (pss_cons (ps_set (i := 6) sc_l_fill.nd rfl (Or.inl rfl) (pe_op op_mul (pv 6) (pe_callTy call_int1 (by rfl) fx.b_int bb_int (pa_cons (pe_cmpR op_lt (pe_ix ix_list (pv 1) pe_int (fun _ _ => rfl)) pe_int (nomark _)) pa_nil))))
  (pss_one (ps_expr (pe_bm PySem.F.plainAttrs_list PySem.F.slot_list_append PySem.F.type_list_append mt_append (pv 3) (pa_cons (pe_lc (own := [("_law_k", 7)]) (by rfl) sc_l_fill.nd (pi_range1 (by rfl) fx.b_range (pa_cons (pv 6) pa_nil)) (blkOk_by (own := [("_law_k", 7)]) (N := N_l_fill) (sc := defScope s_l_fill) (by decide +kernel)) (fun _ _ _ _ _ => (pg_name (i := 7) sc_l_fill.nd rfl (Or.inl rfl))) (fun _ _ _ _ _ => pts_nil) (fun _ _ _ _ _ => (pe_fn Gf hr (by omega) rfl passL (pa_cons (pv 0) (pa_cons (pv 1) (pa_cons (pe_ix (show IxR _ (rIxT K) from ix_tup) (pv 4) pe_int (fun _ _ => rfl)) pa_nil)))))) pa_nil))))))))))))))
  (pss_one (ps_ret (pv 3))))), go _ fun sp kk pre => (?_ : wS _ _ ⟨[some (.val (intsD cells)), some (.val (.adr sp)), some (.val (FD L)), none, none, none, none, none], some sp, kk⟩ _)⟩
  obtain ⟨hcl, ⟨k0, rfl, hfk⟩, hg, hd⟩ : cells.length ≤ 1000 ∧ (∃ j : Nat, kk = j ∧ flK j L) ∧ gdL L ∧ dpL L < m + 1 := pre
  try dsimp only [L2.cxOf]
  refine wS_seq ?_
  repeat' walk_at "y"
  refine wS_seq ?_
  repeat' walk_at "y"
  refine ⟨fun i δ => ∃ (j : Nat) (fs : List Fill) (o4 o5 o6 o7 : Option Cell), Dr k0 (L.take i) fs j ∧ δ = ⟨[some (.val (intsD cells)), some (.val (.adr sp)), some (.val (FD L)), some (.own (fiL fs)), o4, o5, o6, o7], some sp, j⟩,
    ⟨k0, [], none, none, none, none, Dr.nil k0, by rw [fiL]; rfl⟩, ?_, ?_⟩
  · rintro i dd δ hdd ⟨j, fs, o4, o5, o6, o7, hD, rfl⟩
    obtain ⟨x, hx, rfl⟩ := ndL_get hdd
    have hst : L.take (i + 1) = L.take i ++ [x] := by rw [List.take_add_one, hx]; rfl
    have hm := List.mem_of_getElem? hx
    have hgx := gdL_mem hg x hm
    have hdx := dpL_le.mp (Nat.le_refl (dpL L)) x hm
    have hN := flN_of hfk hx hD
    have hfl : fs.length ≤ 1001 := by
      have h1 := okL_len hD.ok
      have h2 := gdL_len hg
      rw [List.length_take] at h1; omega
    cases x with
    | text t =>
      rw [nd_text]
      repeat' walk_at "v"
      refine ⟨j, fs, some (.val (.tup [.str (cs "text"), .str t])), o5, o6, o7, ?_, rfl⟩
      rw [hst]; exact Dr.text hD
    | place p v =>
      rw [ndN]
      repeat' walk_at "v"
      refine ⟨cells, sp, ⟨hcl, (by show (0 : Int) ≤ j; omega), (by show (j : Int) ≤ 100000000; have := hN.2.2; omega)⟩, rfl, rfl, fun dv k' hv => ?_⟩
      obtain ⟨rfl, n, rfl⟩ : k' = (j : Int) + 1 ∧ ∃ z : Nat, dv = .int z := hv
      repeat' walk_at "v"
      refine wE_disp (.cons (.cons .nil)) (by decide) rfl ?_
      repeat' walk_at "v"
      refine ⟨(v, n), trivial, ?_, fun d hd => ?_, fun _ => id⟩
      · have hk : (lkD [((Str.ofString "word").cps.toList, (Str.ofString "w").cps.toList), ((Str.ofString "number").cps.toList, (Str.ofString "n").cps.toList)] (wayS v)).getD (Str.ofString "t").cps.toList = kdW v := by cases v <;> decide +kernel
        rw [hk]; rfl
      obtain ⟨x, rfl, hx⟩ : ∃ x, d = vlD x ∧ fits v x = true := hd
      repeat' walk_at "v"
      refine ⟨by rw [fiL_len]; omega, j + 1, fs ++ [.val x], some (.val (.tup [.str (cs "place"), pthD p, .str (wayS v)])), some (.val (.int n)), o6, o7, (by rw [hst]; exact Dr.snoc rfl hD (DrN.place hx)), ?_⟩
      rw [fiL_snoc, fiD]; rfl
    | choice p y n =>
      rw [ndN]
      repeat' walk_at "v"
      refine ⟨cells, sp, ⟨hcl, (by show (0 : Int) ≤ j; omega), (by show (j : Int) ≤ 100000000; have := hN.2.2; omega)⟩, rfl, rfl, fun dv k' hv => ?_⟩
      obtain ⟨rfl, z, rfl⟩ : k' = (j : Int) + 1 ∧ ∃ z : Nat, dv = .int z := hv
      repeat' walk_at "v"
      rw [gdN] at hgx
      rw [dpN] at hdx
      obtain ⟨q, hq1, hq2⟩ := mod_nat (z := (z : Int) / 5) (m := 2) (by omega) (by decide)
      have hq1 : (z : Int) / 5 % 2 = q := hq1
      rw [hq1]
      rcases q with _ | _ | q
      · refine wR_ixT (n := 2) rfl rfl ?_
        repeat' walk_at "v"
        refine ⟨(cells, y), sp, ⟨hcl, ⟨j + 1, rfl, flN_choice true hN⟩, hgx.1, by show dpL y < m; omega⟩, rfl, rfl, fun dv k' hv => ?_⟩
        obtain ⟨j1, j2, gs, e1, rfl, rfl, hDr⟩ : ∃ (j1 j2 : Nat) (gs : List Fill), (j : Int) + 1 = j1 ∧ k' = j2 ∧ dv = .lst (fiL gs) ∧ Dr j1 y gs j2 := hv
        obtain rfl : j1 = j + 1 := by omega
        repeat' walk_at "v"
        refine ⟨by rw [fiL_len]; omega, j2, fs ++ [.side true gs], some (.val (.tup [.str (cs "choice"), pthD p, .tup (ndL y), .tup (ndL n)])), some (.val (.int z)), o6, o7, (by rw [hst]; exact Dr.snoc rfl hD (DrN.choice (b := true) hDr)), ?_⟩
        rw [fiL_snoc, fiD]; rfl
      · refine wR_ixT (n := 3) rfl rfl ?_
        repeat' walk_at "v"
        refine ⟨(cells, n), sp, ⟨hcl, ⟨j + 1, rfl, flN_choice false hN⟩, hgx.2, by show dpL n < m; omega⟩, rfl, rfl, fun dv k' hv => ?_⟩
        obtain ⟨j1, j2, gs, e1, rfl, rfl, hDr⟩ : ∃ (j1 j2 : Nat) (gs : List Fill), (j : Int) + 1 = j1 ∧ k' = j2 ∧ dv = .lst (fiL gs) ∧ Dr j1 n gs j2 := hv
        obtain rfl : j1 = j + 1 := by omega
        repeat' walk_at "v"
        refine ⟨by rw [fiL_len]; omega, j2, fs ++ [.side false gs], some (.val (.tup [.str (cs "choice"), pthD p, .tup (ndL y), .tup (ndL n)])), some (.val (.int z)), o6, o7, (by rw [hst]; exact Dr.snoc rfl hD (DrN.choice (b := false) hDr)), ?_⟩
        rw [fiL_snoc, fiD]; rfl
      · omega
    | loop nm p b btw =>
      rw [ndN]
      repeat' walk_at "v"
      refine ⟨cells, sp, ⟨hcl, (by show (0 : Int) ≤ j; omega), (by show (j : Int) ≤ 100000000; have := hN.2.2; omega)⟩, rfl, rfl, fun dv k' hv => ?_⟩
      obtain ⟨rfl, z, rfl⟩ : k' = (j : Int) + 1 ∧ ∃ z : Nat, dv = .int z := hv
      repeat' walk_at "v"
      rw [gdN] at hgx
      rw [dpN] at hdx
      obtain ⟨q, hq1, hq2⟩ := mod_nat (z := (z : Int) / 5) (m := 6) (by omega) (by decide)
      have hq : ∃ mm : Nat, [D.int 0, D.int 1, D.int 2, D.int 3, D.int 1, D.int 2][q]? = some (.int mm) ∧ mm ≤ 43 := by
        rcases q with _ | _ | _ | _ | _ | _ | q
        · exact ⟨0, rfl, by omega⟩
        · exact ⟨1, rfl, by omega⟩
        · exact ⟨2, rfl, by omega⟩
        · exact ⟨3, rfl, by omega⟩
        · exact ⟨1, rfl, by omega⟩
        · exact ⟨2, rfl, by omega⟩
        · omega
      obtain ⟨mm, hmm, hmm43⟩ := hq
      refine wR_ixL (n := q) hq1 hmm ?_
      refine wS_cut (I := fun δ => ∃ mm : Nat, mm ≤ 43 ∧ δ = ⟨[some (.val (intsD cells)), some (.val (.adr sp)), some (.val (FD L)), some (.own (fiL fs)), some (.val (.tup [.str (cs "loop"), .str nm, pthD p, .tup (ndL b), .str btw])), some (.val (.int z)), some (.val (.int mm)), o7], some sp, (j : Int) + 1⟩) ?_ ?_
      · repeat' walk_at "v"
        refine ite_b (fun hb => ?_) fun hb => ?_
        · repeat' walk_at "v"
          refine ite_b (fun hb2 => ?_) fun hb2 => ?_
          · repeat' walk_at "v"
            refine ⟨41 + z % 3, by omega, ?_⟩
            show DSt.mk _ _ _ = DSt.mk _ _ _
            rw [show ((41 + z % 3 : Nat) : Int) = 41 + (z : Int) % 3 from by omega]; rfl
          · repeat' walk_at "v"
            exact ⟨mm, hmm43, rfl⟩
        · repeat' walk_at "v"
          exact ⟨mm, hmm43, rfl⟩
      · rintro δ ⟨m2, hm2, rfl⟩
        repeat' walk_at "v"
        · exact .inr (by split <;> decide)
        obtain ⟨m3, hm3, hm3l, hm30⟩ : ∃ m3 : Nat, (m2 : Int) * (if decide ((j : Int) + 1 < 150) = true then 1 else 0) = m3 ∧ m3 ≤ 43 ∧ (m3 ≠ 0 → j + 1 < 150) := by
          by_cases h : (j : Int) + 1 < 150
          · exact ⟨m2, by rw [decide_eq_true h, if_pos rfl]; omega, hm2, fun _ => by omega⟩
          · exact ⟨0, by rw [decide_eq_false h, if_neg (by simp)]; omega, by omega, fun q => absurd rfl q⟩
        rw [hm3]
        refine wE_lc (gw_name (by simp)) ?_
        repeat' walk_at "v"
        refine ⟨by omega, by omega, fun i acc kk => ∃ (rs : List (List Fill)) (k1 : Nat), acc = fiR rs ∧ rs.length = i ∧ kk = k1 ∧ DrR (j + 1) b rs k1, ⟨[], j + 1, by rw [fiR], rfl, rfl, DrR.nil _ _⟩, ?_, ?_⟩
        · rintro i1 d acc kk hd ⟨rs, k1, rfl, hrl, rfl, hRs⟩
          obtain ⟨hi1, rfl⟩ := rng_get' hd
          have hj1 := hm30 (by omega)
          have hK := flN_loop hN hRs (by omega) hj1
          repeat' walk_at "v"
          refine ⟨(cells, b), sp, ⟨hcl, ⟨k1, rfl, hK⟩, hgx.1, by show dpL b < m; omega⟩, rfl, rfl, fun dv k' hv => ?_⟩
          obtain ⟨j1, j2, gs, e1, rfl, rfl, hDr⟩ : ∃ (j1 j2 : Nat) (gs : List Fill), (k1 : Int) = j1 ∧ k' = j2 ∧ dv = .lst (fiL gs) ∧ Dr j1 b gs j2 := hv
          obtain rfl : j1 = k1 := by omega
          exact ⟨by rw [fiR_len]; omega, rs ++ [gs], j2, by rw [fiR_snoc], by simp; omega, rfl, hRs.snoc hDr⟩
        · rintro acc kk ⟨rs, k1, rfl, hrl, rfl, hRs⟩
          rw [List.length_map, List.length_range, Int.toNat_natCast] at hrl
          repeat' walk_at "v"
          refine ⟨by rw [fiL_len]; omega, k1, fs ++ [.rounds rs], some (.val (.tup [.str (cs "loop"), .str nm, pthD p, .tup (ndL b), .str btw])), some (.val (.int z)), some (.val (.int m3)), o7, (by rw [hst]; exact Dr.snoc rfl hD (DrN.loop hRs (by omega) fun h => hm30 (by rw [← hrl]; exact fun z => h (List.eq_nil_of_length_eq_zero z)))), ?_⟩
          rw [fiL_snoc, fiD]; rfl
  · rintro δ ⟨j, fs, o4, o5, o6, o7, hD, rfl⟩
    rw [ndL_len, List.take_length] at hD
    refine wS_freeze (i := 3) rfl ?_
    repeat' walk_at "v"
    exact ⟨k0, j, fs, rfl, rfl, rfl, hD⟩
end

/-! W26: copies, sameness, whole numbers, bent texts. -/
abbrev s_l_copied : Stmt := top 75
abbrev N_l_copied : List Str := ["_law_thing", "_law_one_here", "_law_key"]
theorem sc_l_copied : FnScope N_l_copied ["_law_thing"] (defScope s_l_copied) := ⟨rfl, rfl, rfl, by decide +kernel, rfl, by decide +kernel, by decide +kernel⟩
abbrev s_l_same : Stmt := top 74
abbrev N_l_same : List Str := ["_law_found", "_law_due", "_law_k", "_law_key"]
theorem sc_l_same : FnScope N_l_same ["_law_found", "_law_due"] (defScope s_l_same) := ⟨rfl, rfl, rfl, by decide +kernel, rfl, by decide +kernel, by decide +kernel⟩
abbrev s_l_whole : Stmt := top 81
abbrev N_l_whole : List Str := ["_law_found"]
theorem sc_l_whole : FnScope N_l_whole ["_law_found"] (defScope s_l_whole) := ⟨rfl, rfl, rfl, by decide +kernel, rfl, by decide +kernel, by decide +kernel⟩
abbrev s_l_text_bent : Stmt := top 79
abbrev N_l_text_bent : List Str := ["_law_text_here", "_law_n", "_law_at", "_law_mark", "_law_way_here", "_law_turned"]
theorem sc_l_text_bent : FnScope N_l_text_bent ["_law_text_here", "_law_n"] (defScope s_l_text_bent) := ⟨rfl, rfl, rfl, by decide +kernel, rfl, by decide +kernel, by decide +kernel⟩
mutual
/-- plain data, lists short -/
def szD (n : Nat) : D → Prop
  | .bl _ => True
  | .int _ => True
  | .str _ => True
  | .tup l => l.length ≤ n ∧ szDs n l
  | .lst l => l.length ≤ n ∧ szDs n l
  | _ => False
def szDs (n : Nat) : List D → Prop
  | [] => True
  | d :: l => szD n d ∧ szDs n l
end
theorem szDs_iff {n : Nat} : ∀ {l : List D}, szDs n l ↔ ∀ d ∈ l, szD n d
  | [] => by rw [szDs]; simp
  | d :: l => by rw [szDs, szDs_iff]; simp
theorem szD_lst {n : Nat} {l : List D} (h : szD n (.lst l)) : l.length ≤ n ∧ ∀ (i : Nat) (d : D), l[i]? = some d → szD n d := by
  rw [szD] at h
  exact ⟨h.1, fun i d hd => szDs_iff.mp h.2 d (List.mem_of_getElem? hd)⟩
theorem szD_tup {n : Nat} {l : List D} (h : szD n (.tup l)) : l.length ≤ n ∧ ∀ (i : Nat) (d : D), l[i]? = some d → szD n d := by
  rw [szD] at h
  exact ⟨h.1, fun i d hd => szDs_iff.mp h.2 d (List.mem_of_getElem? hd)⟩
theorem deD_lst {m : Nat} {l : List D} (h : deD (.lst l) < m + 1) : ∀ (i : Nat) (d : D), l[i]? = some d → deD d < m := fun i d hd => by
  rw [deD] at h
  have := deDs_le.mp (Nat.le_refl (deDs l)) d (List.mem_of_getElem? hd)
  omega
theorem deD_tup {m : Nat} {l : List D} (h : deD (.tup l) < m + 1) : ∀ (i : Nat) (d : D), l[i]? = some d → deD d < m := fun i d hd => by
  rw [deD] at h
  have := deDs_le.mp (Nat.le_refl (deDs l)) d (List.mem_of_getElem? hd)
  omega
theorem wR_ixXL {p : Pr} {l : List D} {i : Int} {n : Nat} {d : D} {Φ : D → Prop} (e : i = (n : Int)) (h : l[n]? = some d) (q : Φ d) : wR p (rIx p.K) (.lst l) (.int i) Φ := fun P H x y Q hP rx ry f => .inl (wR_ixL e h q P H x y Q hP rx ry f)
theorem wR_ixXT {p : Pr} {l : List D} {i : Int} {n : Nat} {d : D} {Φ : D → Prop} (e : i = (n : Int)) (h : l[n]? = some d) (q : Φ d) : wR p (rIx p.K) (.tup l) (.int i) Φ := fun P H x y Q hP rx ry f => .inr (.inl (wR_ixT e h q P H x y Q hP rx ry f))
theorem rng_get {n i : Nat} {d : D} (h : ((List.range n).map fun (j : Nat) => D.int (j : Int))[i]? = some d) : i < n ∧ d = .int (i : Int) := by
  rw [List.getElem?_map] at h
  obtain ⟨i', hi', rfl⟩ := Option.map_eq_some_iff.mp h
  have hlt := (List.getElem?_eq_some_iff.mp hi').1
  rw [List.length_range] at hlt
  rw [List.getElem?_range hlt] at hi'
  cases hi'
  exact ⟨hlt, rfl⟩
def cCop (m : Nat) : CtA D := { args := fun a => [a], pre := fun a => szD 100000 a ∧ deD a < m, post := fun a d => d = a }
def cSame (m : Nat) : CtA D := { args := fun a => [a, a], pre := fun a => szD 100000 a ∧ deD a < m, post := fun _ d => d = .bl true }
def cBent : CtA (T × Nat) := { args := fun a => [.str a.1, .int a.2], pre := fun a => allSG a.1 = true ∧ a.1.length ≤ 5000000, post := fun a d => ∃ t, d = .str t ∧ allSG t = true ∧ t.length ≤ 16000000 }
theorem cut_SG {t : T} {lo hi : Option Int} (h : allSG t = true) : allSG (cutT t lo hi) = true ∧ (cutT t lo hi).length ≤ t.length := by
  unfold cutT
  refine ⟨allSG_iff.mpr fun c hc => allSG_iff.mp h c (List.mem_of_mem_drop (List.mem_of_mem_take hc)), ?_⟩
  rw [List.length_take, List.length_drop]; omega
section
variable {P : Program} {w : World} {K : PySem.W.Frag} {mg : Str → Option Value} {base : Heap} {f : Addr} {fd : FuncData} {wc : Way → Addr} {nf : Addr} {k : Nat}
theorem ok_l_copied {m : Nat} (fx : Fx K mg wc nf) (F : FnP K "_law_copied" "_law_copied" s_l_copied f fd) (Gc : Fn P w K mg base "_law_copied" ["_law_thing"] k (spA K wc nf (cCop m))) : FnOk P w K mg base (L2.CX P w) (k + 1) f fd ["_law_thing"] (spA K wc nf (cCop (m + 1))) := by
  refine F.ok sc_l_copied (spA_len fun a _ => rfl) fun cdv A outer s H vs Q E hr h => ?_
  obtain ⟨d, pre, go⟩ := pure_A (N := N_l_copied) (fun a _ => by simp [cCop]) h
  obtain ⟨hz, hd⟩ : szD 100000 d ∧ deD d < m + 1 := pre
  refine ⟨_, (pss_cons (ps_if (pt_val (pe_callB call_isi (by rfl) fx.b_isinstance bb_isinstance (pa_cons (pv 0) (pa_cons (pe_bltn (v := .ty "list") rfl fx.b_list bb_list rfl) pa_nil))))
  (pss_one (ps_ret (pe_lc (own := [("_law_one_here", 1)]) (by rfl) sc_l_copied.nd (pi_list (pv 0)) (blkOk_by (own := [("_law_one_here", 1)]) (N := N_l_copied) (sc := defScope s_l_copied) (by decide +kernel)) (fun _ _ _ _ _ => (pg_name (i := 1) sc_l_copied.nd rfl (Or.inl rfl))) (fun _ _ _ _ _ => pts_nil) (fun _ _ _ _ _ => (pe_fn Gc hr (by omega) rfl passL (pa_cons (pv 1) pa_nil))))))
  pss_nil)
  (pss_cons (ps_if (pt_val (pe_callB call_isi (by rfl) fx.b_isinstance bb_isinstance (pa_cons (pv 0) (pa_cons (pe_bltn (v := .ty "tuple") rfl fx.b_tuple bb_tuple rfl) pa_nil))))
  (pss_one (ps_ret (pe_callTy call_tuple_of (by rfl) fx.b_tuple bb_tuple (pa_cons (pe_lc (own := [("_law_one_here", 1)]) (by rfl) sc_l_copied.nd (pi_tup (pv 0)) (blkOk_by (own := [("_law_one_here", 1)]) (N := N_l_copied) (sc := defScope s_l_copied) (by decide +kernel)) (fun _ _ _ _ _ => (pg_name (i := 1) sc_l_copied.nd rfl (Or.inl rfl))) (fun _ _ _ _ _ => pts_nil) (fun _ _ _ _ _ => (pe_fn Gc hr (by omega) rfl passL (pa_cons (pv 1) pa_nil)))) pa_nil))))
  pss_nil)
  (pss_cons (ps_if (pt_val (pe_callB call_isi (by rfl) fx.b_isinstance bb_isinstance (pa_cons (pv 0) (pa_cons (pe_bltn (v := .ty "dict") rfl fx.b_dict bb_dict rfl) pa_nil))))
  (pss_one ps_never)
  pss_nil)
  (pss_one (ps_ret (pv 0)))))), go _ (?_ : wS _ _ ⟨[some (.val d), none, none], none, 0⟩ _)⟩
  try dsimp only [L2.cxOf]
  cases d with
  | lst l =>
    obtain ⟨hl, hi⟩ := szD_lst hz
    have hdi := deD_lst hd
    repeat' walk_at "v"
    refine wE_lcM (gw_name (by simp)) ?_
    repeat' walk_at "v"
    refine ⟨l, by omega, rfl, fun i d hd => ?_, ?_⟩
    · repeat' walk_at "v"
      refine ⟨d, ⟨hi i d hd, hdi i d hd⟩, rfl, fun dv hdv => ⟨?_, rfl⟩, fun _ => id⟩
      rw [hdv]; exact hd
    · repeat' walk_at "v"
      rfl
  | tup l =>
    obtain ⟨hl, hi⟩ := szD_tup hz
    have hdi := deD_tup hd
    repeat' walk_at "v"
    refine wE_lcM (gw_name (by simp)) ?_
    repeat' walk_at "v"
    refine ⟨l, by omega, rfl, fun i d hd => ?_, ?_⟩
    · repeat' walk_at "v"
      refine ⟨d, ⟨hi i d hd, hdi i d hd⟩, rfl, fun dv hdv => ⟨?_, rfl⟩, fun _ => id⟩
      rw [hdv]; exact hd
    · repeat' walk_at "v"
      rfl
  | bl b => repeat' walk_at "v"
            rfl
  | int i => repeat' walk_at "v"
             rfl
  | str t => repeat' walk_at "v"
             rfl
  | non => simp [szD] at hz
  | ty n => simp [szD] at hz
  | adr n => simp [szD] at hz
  | way n => simp [szD] at hz
  | dic n => simp [szD] at hz
theorem ok_l_same {m : Nat} (fx : Fx K mg wc nf) (F : FnP K "_law_same" "_law_same" s_l_same f fd) (Gs : Fn P w K mg base "_law_same" ["_law_found", "_law_due"] k (spA K wc nf (cSame m))) : FnOk P w K mg base (L2.CX P w) (k + 1) f fd ["_law_found", "_law_due"] (spA K wc nf (cSame (m + 1))) := by
  refine F.ok sc_l_same (spA_len fun a _ => rfl) fun cdv A outer s H vs Q E hr h => ?_
  obtain ⟨d, pre, go⟩ := pure_A (N := N_l_same) (fun a _ => by simp [cSame]) h
  obtain ⟨hz, hd⟩ : szD 100000 d ∧ deD d < m + 1 := pre
  refine ⟨_, (pss_cons (ps_if (pt_val (pe_callB call_isiT (by rfl) fx.b_isinstance bb_isinstance (pa_cons (pv 1) (pa_cons (pe_tup (pa_cons (pe_bltn (v := .ty "list") rfl fx.b_list bb_list rfl) (pa_cons (pe_bltn (v := .ty "tuple") rfl fx.b_tuple bb_tuple rfl) pa_nil))) pa_nil))))
  (pss_cons (ps_if (PW.pt (pw_or (pt_cmpR op_ne (pe_callB call_isi (by rfl) fx.b_isinstance bb_isinstance (pa_cons (pv 0) (pa_cons (pe_bltn (v := .ty "list") rfl fx.b_list bb_list rfl) pa_nil))) (pe_callB call_isi (by rfl) fx.b_isinstance bb_isinstance (pa_cons (pv 1) (pa_cons (pe_bltn (v := .ty "list") rfl fx.b_list bb_list rfl) pa_nil))) (nomark _)) (pw_or1 (pt_cmpR op_ne (pe_callB call_isi (by rfl) fx.b_isinstance bb_isinstance (pa_cons (pv 0) (pa_cons (pe_bltn (v := .ty "tuple") rfl fx.b_tuple bb_tuple rfl) pa_nil))) (pe_callB call_isi (by rfl) fx.b_isinstance bb_isinstance (pa_cons (pv 1) (pa_cons (pe_bltn (v := .ty "tuple") rfl fx.b_tuple bb_tuple rfl) pa_nil))) (nomark _)))))
  (pss_one (ps_ret pe_bl))
  pss_nil)
  (pss_one (ps_ret (pe_and (pe_cmpR op_eq (pe_callB call_len_seq (by rfl) fx.b_len bb_len (pa_cons (pv 0) pa_nil)) (pe_callB call_len_seq (by rfl) fx.b_len bb_len (pa_cons (pv 1) pa_nil)) (nomark _)) (pe_one (pe_callB (cr_all (by rfl)) (by rfl) fx.b_all bb_all (pa_cons (pe_lc (own := [("_law_k", 2)]) (by rfl) sc_l_same.nd (pi_range1 (by rfl) fx.b_range (pa_cons (pe_callB call_len_seq (by rfl) fx.b_len bb_len (pa_cons (pv 1) pa_nil)) pa_nil)) (blkOk_by (own := [("_law_k", 2)]) (N := N_l_same) (sc := defScope s_l_same) (by decide +kernel)) (fun _ _ _ _ _ => (pg_name (i := 2) sc_l_same.nd rfl (Or.inl rfl))) (fun _ _ _ _ _ => pts_nil) (fun _ _ _ _ _ => (pe_fn Gs hr (by omega) rfl passL (pa_cons (pe_ix (show IxR _ (rIx K) from ix_seq) (pv 0) (pv 2) (fun _ _ => rfl)) (pa_cons (pe_ix (show IxR _ (rIx K) from ix_seq) (pv 1) (pv 2) (fun _ _ => rfl)) pa_nil))))) pa_nil)))))))
  pss_nil)
  (pss_cons (ps_if (pt_val (pe_callB call_isi (by rfl) fx.b_isinstance bb_isinstance (pa_cons (pv 1) (pa_cons (pe_bltn (v := .ty "dict") rfl fx.b_dict bb_dict rfl) pa_nil))))
  (pss_cons ps_never
  (pss_one ps_never))
  pss_nil)
  (pss_one (ps_ret (pe_and (pe_cmpR op_eq (pe_callB call_isi (by rfl) fx.b_isinstance bb_isinstance (pa_cons (pv 0) (pa_cons (pe_bltn (v := .ty "bool") rfl fx.b_bool bb_bool rfl) pa_nil))) (pe_callB call_isi (by rfl) fx.b_isinstance bb_isinstance (pa_cons (pv 1) (pa_cons (pe_bltn (v := .ty "bool") rfl fx.b_bool bb_bool rfl) pa_nil))) (nomark _)) (pe_one (pe_cmpR op_eq (pv 0) (pv 1) (nomark _)))))))), go _ (?_ : wS _ _ ⟨[some (.val d), some (.val d), none, none], none, 0⟩ _)⟩
  try dsimp only [L2.cxOf]
  cases d with
  | lst l =>
    obtain ⟨hl, hi⟩ := szD_lst hz
    have hdi := deD_lst hd
    repeat' walk_at "v"
    refine ⟨_, _, rfl, rfl, rfl, ?_⟩
    repeat' walk_at "v"
    rw [decide_eq_true rfl]
    repeat' walk_at "v"
    refine wE_lcM (gw_name (by simp)) ?_
    repeat' walk_at "v"
    refine ⟨by omega, by omega, (List.replicate l.length true).map D.bl, by simp; omega, by simp, fun i d hd => ?_, ?_⟩
    · obtain ⟨hi1, rfl⟩ := rng_get' hd
      have hg := List.getElem?_eq_getElem hi1
      repeat' walk_at "v"
      refine wR_ixXL rfl hg ?_
      repeat' walk_at "v"
      refine wR_ixXL rfl hg ?_
      repeat' walk_at "v"
      refine ⟨l[i], ⟨hi i _ hg, hdi i _ hg⟩, rfl, fun dv hdv => ⟨?_, rfl⟩, fun _ => id⟩
      rw [hdv]; simp [List.getElem?_replicate, hi1]
    · repeat' walk_at "v"
      show D.bl _ = D.bl true
      simp
  | tup l =>
    obtain ⟨hl, hi⟩ := szD_tup hz
    have hdi := deD_tup hd
    repeat' walk_at "v"
    refine ⟨_, _, rfl, rfl, rfl, ?_⟩
    repeat' walk_at "v"
    rw [decide_eq_true rfl]
    repeat' walk_at "v"
    refine wE_lcM (gw_name (by simp)) ?_
    repeat' walk_at "v"
    refine ⟨by omega, by omega, (List.replicate l.length true).map D.bl, by simp; omega, by simp, fun i d hd => ?_, ?_⟩
    · obtain ⟨hi1, rfl⟩ := rng_get' hd
      have hg := List.getElem?_eq_getElem hi1
      repeat' walk_at "v"
      refine wR_ixXT rfl hg ?_
      repeat' walk_at "v"
      refine wR_ixXT rfl hg ?_
      repeat' walk_at "v"
      refine ⟨l[i], ⟨hi i _ hg, hdi i _ hg⟩, rfl, fun dv hdv => ⟨?_, rfl⟩, fun _ => id⟩
      rw [hdv]; simp [List.getElem?_replicate, hi1]
    · repeat' walk_at "v"
      show D.bl _ = D.bl true
      simp
  | bl b => repeat' walk_at "v"
            refine ⟨_, _, rfl, rfl, rfl, ?_⟩
            repeat' walk_at "v"
            exact congrArg D.bl (decide_eq_true rfl)
  | int i => repeat' walk_at "v"
             refine ⟨_, _, rfl, rfl, rfl, ?_⟩
             repeat' walk_at "v"
             exact congrArg D.bl (decide_eq_true rfl)
  | str t => repeat' walk_at "v"
             refine ⟨_, _, rfl, rfl, rfl, ?_⟩
             repeat' walk_at "v"
             exact congrArg D.bl (decide_eq_true rfl)
  | non => simp [szD] at hz
  | ty n => simp [szD] at hz
  | adr n => simp [szD] at hz
  | way n => simp [szD] at hz
  | dic n => simp [szD] at hz
theorem ok_l_whole (fx : Fx K mg wc nf) (F : FnP K "_law_whole" "_law_whole" s_l_whole f fd) : FnOk P w K mg base (L2.CX P w) (k + 1) f fd ["_law_found"] (spA K wc nf cIsWhole) := by
  refine F.ok sc_l_whole (spA_len fun a _ => rfl) fun cdv A outer s H vs Q E hr h => ?_
  obtain ⟨i, pre, go⟩ := pure_A (N := N_l_whole) (fun a _ => by simp [cIsWhole]) h
  refine ⟨_, (pss_one (ps_ret (pe_and (pe_callB call_isi (by rfl) fx.b_isinstance bb_isinstance (pa_cons (pv 0) (pa_cons (pe_bltn (v := .ty "int") rfl fx.b_int bb_int rfl) pa_nil))) (pe_one (pe_not (pe_callB call_isi (by rfl) fx.b_isinstance bb_isinstance (pa_cons (pv 0) (pa_cons (pe_bltn (v := .ty "bool") rfl fx.b_bool bb_bool rfl) pa_nil)))))))), go _ (?_ : wS _ _ ⟨[some (.val (.int i))], none, 0⟩ _)⟩
  try dsimp only [L2.cxOf]
  repeat' walk_at "v"
  rfl
theorem ok_l_text_bent (fx : Fx K mg wc nf) (F : FnP K "_law_text_bent" "_law_text_bent" s_l_text_bent f fd) (Gm : Fn P w K mg base "_law_marks" [] k (spA K wc nf cMarks)) : FnOk P w K mg base (L2.CX P w) (k + 1) f fd ["_law_text_here", "_law_n"] (spA K wc nf cBent) := by
  refine F.ok sc_l_text_bent (spA_len fun a _ => rfl) fun cdv A outer s H vs Q E hr h => ?_
  obtain ⟨⟨t, n⟩, pre, go⟩ := pure_A (N := N_l_text_bent) (fun a _ => by simp [cBent]) h
  obtain ⟨hS, hl⟩ : allSG t = true ∧ t.length ≤ 5000000 := pre
  refine ⟨_, (pss_cons (ps_set (i := 2) sc_l_text_bent.nd rfl (Or.inl rfl) (pe_op op_mod (pe_op op_fdiv (pv 1) pe_int) (pe_op op_add (pe_callB call_len_str (by rfl) fx.b_len bb_len (pa_cons (pv 0) pa_nil)) pe_int)))
  (pss_cons (ps_set (i := 3) sc_l_text_bent.nd rfl (Or.inl rfl) (pe_ix ix_str (pe_fn0 Gm hr (by omega) rfl passL) (pe_op op_mod (pe_op op_fdiv (pv 1) pe_int) pe_int) (fun _ _ => rfl)))
  (pss_cons (ps_if (PW.pt (pw_and (pt_cmpR op_eq (pe_op op_mod (pe_op op_fdiv (pv 1) pe_int) pe_int) pe_int (nomark _)) (pw_and1 (pt_cmpR op_ne (pv 0) pe_str (nomark _)))))
  (pss_one (ps_set (i := 3) sc_l_text_bent.nd rfl (Or.inl rfl) (pe_ix ix_str (pv 0) (pe_op op_mod (pe_op op_fdiv (pv 1) pe_int) (pe_callB call_len_str (by rfl) fx.b_len bb_len (pa_cons (pv 0) pa_nil))) (fun _ _ => rfl))))
  pss_nil)
  (pss_cons (ps_set (i := 4) sc_l_text_bent.nd rfl (Or.inl rfl) (pe_op op_mod (pv 1) pe_int))
  (pss_cons (ps_if (pt_cmpR op_eq (pv 4) pe_int (nomark _))
  (pss_one (ps_ret (pv 0)))
  pss_nil)
  (pss_cons (ps_if (pt_cmpR op_lt (pv 4) pe_int (nomark _))
  (pss_one (ps_ret (pe_op op_add_str (pe_op op_add_str (pe_slice sl_str (pv 0) po_none (po_some (pv 2))) (pv 3)) (pe_slice sl_str (pv 0) (po_some (pe_op op_sub (pe_op op_add (pv 2) (pv 4)) pe_int)) po_none))))
  pss_nil)
  (pss_cons (ps_if (pt_cmpR op_eq (pv 4) pe_int (nomark _))
  (pss_one (ps_ret (pe_op op_add_str (pe_slice sl_str (pv 0) po_none (po_some (pv 2))) (pe_slice sl_str (pv 0) (po_some (pe_op op_add (pv 2) pe_int)) po_none))))
  pss_nil)
  (pss_cons (ps_if (pt_cmpR op_eq (pv 4) pe_int (nomark _))
  (pss_cons (ps_set (i := 5) sc_l_text_bent.nd rfl (Or.inl rfl) (pe_op op_add_str (pe_slice sl_str (pv 0) (po_some (pe_op op_add (pv 2) pe_int)) (po_some (pe_op op_add (pv 2) pe_int))) (pe_slice sl_str (pv 0) (po_some (pv 2)) (po_some (pe_op op_add (pv 2) pe_int)))))
  (pss_one (ps_ret (pe_op op_add_str (pe_op op_add_str (pe_slice sl_str (pv 0) po_none (po_some (pv 2))) (pv 5)) (pe_slice sl_str (pv 0) (po_some (pe_op op_add (pv 2) pe_int)) po_none)))))
  pss_nil)
  (pss_cons (ps_if (pt_cmpR op_eq (pv 4) pe_int (nomark _))
  (pss_one (ps_ret (pe_slice sl_str (pv 0) po_none (po_some (pv 2)))))
  pss_nil)
  (pss_one (ps_ret (pe_op op_add_str (pv 0) (pv 3))))))))))))), go _ (?_ : wS _ _ ⟨[some (.val (.str t)), some (.val (.int n)), none, none, none, none], none, 0⟩ _)⟩
  try dsimp only [L2.cxOf]
  repeat' walk_at "y"
  refine wS_seq ?_
  repeat' walk_at "y"
  · omega
  · show (0 : Int) < (List.length t : Int) + 1
    omega
  obtain ⟨a, ha1, ha2⟩ := mod_nat (z := (n : Int) / 7) (m := t.length + 1) (by omega) (by omega)
  have ha1 : (n : Int) / 7 % ((t.length : Int) + 1) = a := ha1
  rw [ha1]
  obtain ⟨i1, h11, h1l⟩ := mod_nat (z := (n : Int) / 50021) (m := 95) (by omega) (by decide)
  obtain ⟨c0, h12, h13⟩ := SG_get h1l
  have hSGl : SG.length ≤ 16777216 := by rw [SG_len]; decide
  refine wS_seq ?_
  repeat' walk_at "y"
  refine ⟨(), trivial, rfl, fun d hd => ?_, fun _ => id⟩
  rw [hd]
  repeat' walk_at "y"
  refine wR_ixS (n := i1) hSGl h11 h12 ?_
  refine wS_cut (I := fun δ => ∃ c : Nat, c ∈ SG ∧ δ = ⟨[some (.val (.str t)), some (.val (.int n)), some (.val (.int a)), some (.val (.str [c])), none, none], none, 0⟩) ?_ ?_
  · repeat' walk_at "v"
    refine ite_b (fun hb => ?_) fun hb => ?_
    · repeat' walk_at "v"
      refine ite_b (fun hb2 => ?_) fun hb2 => ?_
      · have hne : 0 < t.length := by
          cases t with
          | nil => exact absurd hb2 (by decide)
          | cons x r => simp
        repeat' walk_at "v"
        · omega
        · show (0 : Int) < (List.length t : Int)
          omega
        obtain ⟨i2, h21, h2l⟩ := mod_nat (z := (n : Int) / 11) (m := t.length) (by omega) hne
        refine wR_ixS (n := i2) (by omega) h21 (List.getElem?_eq_getElem h2l) ?_
        exact ⟨_, allSG_iff.mp hS _ (List.getElem_mem h2l), rfl⟩
      · repeat' walk_at "v"
        exact ⟨c0, h13, rfl⟩
    · repeat' walk_at "v"
      exact ⟨c0, h13, rfl⟩
  · rintro δ ⟨c, hc, rfl⟩
    have hcS : allSG [c] = true := allSG_cons.mpr ⟨hc, rfl⟩
    refine wS_seq ?_
    repeat' walk_at "y"
    refine wS_seq ?_
    refine wS_if ?_
    repeat' walk_at "y"
    refine ite_b (fun hb => ?_) fun hb => ?_
    · repeat' walk_at "v"
      exact ⟨t, rfl, hS, by omega⟩
    repeat' walk_at "v"
    refine ite_b (fun hb2 => ?_) fun hb2 => ?_
    · have k1 := cut_SG (lo := none) (hi := some (a : Int)) hS
      have k2 := cut_SG (lo := some ((a : Int) + (n : Int) % 7 - 1)) (hi := none) hS
      repeat' walk_at "v"
      any_goals (first | omega | (simp only [List.length_append, List.length_singleton]; omega))
      exact ⟨_, rfl, allSG_app.mpr ⟨allSG_app.mpr ⟨k1.1, hcS⟩, k2.1⟩, by simp only [List.length_append, List.length_singleton]; omega⟩
    repeat' walk_at "v"
    refine ite_b (fun hb3 => ?_) fun hb3 => ?_
    · have k1 := cut_SG (lo := none) (hi := some (a : Int)) hS
      have k2 := cut_SG (lo := some ((a : Int) + 1)) (hi := none) hS
      repeat' walk_at "v"
      any_goals (first | omega | (simp only [List.length_append, List.length_singleton]; omega))
      exact ⟨_, rfl, allSG_app.mpr ⟨k1.1, k2.1⟩, by simp only [List.length_append]; omega⟩
    repeat' walk_at "v"
    refine ite_b (fun hb4 => ?_) fun hb4 => ?_
    · have k1 := cut_SG (lo := none) (hi := some (a : Int)) hS
      have k2 := cut_SG (lo := some ((a : Int) + 2)) (hi := none) hS
      have k3 := cut_SG (lo := some ((a : Int) + 1)) (hi := some ((a : Int) + 2)) hS
      have k4 := cut_SG (lo := some (a : Int)) (hi := some ((a : Int) + 1)) hS
      have m3 := cut_mid (l := t) (i := (a : Int) + 1) (j := (a : Int) + 2) (by omega) (by omega)
      have m4 := cut_mid (l := t) (i := (a : Int)) (j := (a : Int) + 1) (by omega) (by omega)
      have l3 : (cutT t (some ((a : Int) + 1)) (some ((a : Int) + 2))).length ≤ 1 := by rw [m3, List.length_take]; omega
      have l4 : (cutT t (some (a : Int)) (some ((a : Int) + 1))).length ≤ 1 := by rw [m4, List.length_take]; omega
      repeat' walk_at "v"
      any_goals (first | omega | (simp only [List.length_append, List.length_singleton]; omega))
      exact ⟨_, rfl, allSG_app.mpr ⟨allSG_app.mpr ⟨k1.1, allSG_app.mpr ⟨k3.1, k4.1⟩⟩, k2.1⟩, by simp only [List.length_append]; omega⟩
    repeat' walk_at "v"
    refine ite_b (fun hb5 => ?_) fun hb5 => ?_
    · have k1 := cut_SG (lo := none) (hi := some (a : Int)) hS
      repeat' walk_at "v"
      any_goals (first | omega | (simp only [List.length_append, List.length_singleton]; omega))
      exact ⟨_, rfl, k1.1, by omega⟩
    repeat' walk_at "v"
    any_goals (first | omega | (simp only [List.length_append, List.length_singleton]; omega))
    exact ⟨_, rfl, allSG_app.mpr ⟨hS, hcS⟩, by simp only [List.length_append, List.length_singleton]; omega⟩
end

/-! W27: spoiling, reading in a try. -/
abbrev s_l_spoilt : Stmt := top 77
abbrev N_l_spoilt : List Str := ["_law_fill_here", "_law_one_here"]
theorem sc_l_spoilt : FnScope N_l_spoilt ["_law_fill_here"] (defScope s_l_spoilt) := ⟨rfl, rfl, rfl, by decide +kernel, rfl, by decide +kernel, by decide +kernel⟩
abbrev s_l_read : Stmt := top 83
abbrev N_l_read : List Str := ["_law_form_here", "_law_text_here", "e"]
theorem sc_l_read : FnScope N_l_read ["_law_form_here", "_law_text_here"] (defScope s_l_read) := ⟨rfl, rfl, rfl, by decide +kernel, rfl, by decide +kernel, by decide +kernel⟩
def moreV : V := .str (Str.ofString "more")
abbrev AllA : Addr → Prop := fun _ => True
/-- lists got more at their end -/
def Grow (n : Nat) (P : Addr → Prop) (H H' : Hp) : Prop := ∀ c o, H c = some o → H' c = some o ∨ (P c ∧ ∃ xs m, o = .lst xs ∧ m ≤ n ∧ H' c = some (.lst (xs ++ List.replicate m moreV)))
section
variable {P P' : Addr → Prop} {H H1 H2 H' : Hp} {n m : Nat}
theorem Grow.refl : Grow 0 P H H := fun c o e => .inl e
theorem Grow.trans (h : Grow n P H H1) (g : Grow m P H1 H2) : Grow (n + m) P H H2 := fun c o e => by
  rcases h c o e with e1 | ⟨p1, xs, i, rfl, hi, e1⟩
  · rcases g c o e1 with e2 | ⟨p2, ys, j, rfl, hj, e2⟩
    · exact .inl e2
    · exact .inr ⟨p2, ys, j, rfl, by omega, e2⟩
  · rcases g c _ e1 with e2 | ⟨p2, ys, j, ey, hj, e2⟩
    · exact .inr ⟨p1, xs, i, rfl, by omega, e2⟩
    · cases ey
      refine .inr ⟨p1, xs, i + j, rfl, by omega, ?_⟩
      rw [e2, List.append_assoc, List.replicate_append_replicate]
theorem Grow.mono (h : Grow n P H H') (hn : n ≤ m) (hP : ∀ c, P c → P' c) : Grow m P' H H' := fun c o e => by
  rcases h c o e with e1 | ⟨p1, xs, i, rfl, hi, e1⟩
  · exact .inl e1
  · exact .inr ⟨hP c p1, xs, i, rfl, by omega, e1⟩
theorem Grow.lst (h : Grow n P H H') {a : Addr} {xs : List V} (e : H a = some (.lst xs)) : ∃ m, m ≤ n ∧ H' a = some (.lst (xs ++ List.replicate m moreV)) := by
  rcases h a _ e with e1 | ⟨p1, ys, i, ey, hi, e1⟩
  · exact ⟨0, Nat.zero_le _, by simpa using e1⟩
  · cases ey; exact ⟨i, hi, e1⟩
theorem Grow.keep (h : Grow n P H H') {c : Addr} {o : HO} (hp : ¬ P c) (e : H c = some o) : H' c = some o := by
  rcases h c o e with e1 | ⟨p1, _⟩
  · exact e1
  · exact absurd p1 hp
theorem Grow.non (h : Grow n P H H') {c : Addr} {o : HO} (hp : ∀ xs, o ≠ .lst xs) (e : H c = some o) : H' c = some o := by
  rcases h c o e with e1 | ⟨p1, xs, i, ey, _⟩
  · exact e1
  · exact absurd ey (hp xs)
end
mutual
/-- how many lists -/
def nlD : D → Nat
  | .lst l => 1 + nlDs l
  | .tup l => nlDs l
  | _ => 0
def nlDs : List D → Nat
  | [] => 0
  | d :: l => nlD d + nlDs l
end
def tupOk : List D → Prop
  | [.bl _, .lst _] => True
  | _ => False
mutual
/-- what spoilt goes through -/
def spD (n : Nat) : D → Prop
  | .lst l => l.length ≤ n ∧ spDs n l
  | .tup l => tupOk l ∧ spDs n l
  | .bl _ => True
  | .int _ => True
  | .str _ => True
  | _ => False
def spDs (n : Nat) : List D → Prop
  | [] => True
  | d :: l => spD n d ∧ spDs n l
end
theorem spDs_iff {n : Nat} : ∀ {l : List D}, spDs n l ↔ ∀ d ∈ l, spD n d
  | [] => by rw [spDs]; simp
  | d :: l => by rw [spDs, spDs_iff]; simp
theorem nlDs_take : ∀ (l : List D) (i : Nat) (d : D), l[i]? = some d → nlDs (l.take (i + 1)) = nlDs (l.take i) + nlD d
  | [], _, _, h => by simp at h
  | e :: l, 0, d, h => by
    obtain rfl : e = d := by simpa using h
    rw [List.take_succ_cons, List.take_zero, nlDs, List.take_zero, nlDs]; omega
  | e :: l, i + 1, d, h => by
    have ih := nlDs_take l i d (by simpa using h)
    rw [List.take_succ_cons, List.take_succ_cons, nlDs, nlDs, ih]; omega
theorem nlDs_le : ∀ (l : List D) (i : Nat), nlDs (l.take i) ≤ nlDs l
  | [], i => by simp
  | e :: l, 0 => by rw [List.take_zero, nlDs]; omega
  | e :: l, i + 1 => by
    have ih := nlDs_le l i
    rw [List.take_succ_cons, nlDs, nlDs]; omega
/-- lists of the datum lie in P; they may have grown since they stood so -/
def spSpoil (K : PySem.W.Frag) (wc : Way → Addr) (m : Nat) : Sp := fun vs H Q _ => ∃ (P : Addr → Prop) (H0 : Hp) (k0 : Nat) (l : List D) (v : V), vs = [v] ∧ Grow k0 AllA H0 H ∧ Rep K wc (.lst l) P H0 v ∧ spD 100000 (.lst l) ∧ deD (.lst l) < m ∧ k0 + nlD (.lst l) ≤ 1000000 ∧
  ∀ H', Grow (nlD (.lst l)) P H H' → Q .non H'
theorem isi_go {K : PySem.W.Frag} {σ : L2.St} {H : Hp} {i : Nat} {x : V} {t n : String} {b : Bool} {Q : Bool → Hp → Prop} (hx : σ[i]? = some (some x)) (ht : TyX K H x (.type t)) (hb : kitB t n = some b) (q : Q b H) : tB (tCB (rIsi K) (tCons (tVar i) (tCons (tC (.ty n)) tNil))) σ H Q :=
  ⟨x, hx, x, .ty n, _, _, b, rfl, .ty n, ht, kit_ty hb, b, rfl, q⟩
section
variable {P : Program} {w : World} {K : PySem.W.Frag} {mg : Str → Option Value} {base : Heap} {f : Addr} {fd : FuncData} {wc : Way → Addr} {nf : Addr} {k : Nat}
theorem ok_l_spoilt {m : Nat} (fx : Fx K mg wc nf) (F : FnP K "_law_spoilt" "_law_spoilt" s_l_spoilt f fd) (Gs : Fn P w K mg base "_law_spoilt" ["_law_fill_here"] k (spSpoil K wc m)) : FnOk P w K mg base (L2.CX P w) (k + 1) f fd ["_law_fill_here"] (spSpoil K wc (m + 1)) := by
  refine F.ok sc_l_spoilt (fun vs H Q E h => ?_) fun cdv A outer s H vs Q E hr h => ?_
  · obtain ⟨U, H0, k0, l, v, rfl, _⟩ := h; rfl
  obtain ⟨U, H0, k0, l, v, rfl, hG, r, hs, hd, hk, hQ⟩ := h
  rw [Rep] at r
  obtain ⟨a, ys, rfl, pa, ea, r⟩ := r
  obtain ⟨m0, hm0, e0⟩ := hG.lst ea
  rw [spD] at hs
  rw [deD] at hd
  rw [nlD] at hk hQ
  have hyl : ys.length = l.length := r.len
  refine ⟨_, (pss_cons (ps_for (passes_of rfl) (by rfl) (pi_list (pv 0)) (pg_name (i := 1) sc_l_spoilt.nd rfl (Or.inl rfl))
  (pss_one (ps_if (pt_val (pe_callB call_isi (by rfl) fx.b_isinstance bb_isinstance (pa_cons (pv 1) (pa_cons (pe_bltn (v := .ty "list") rfl fx.b_list bb_list rfl) pa_nil))))
  (pss_one (ps_expr (pe_fn Gs hr (by omega) rfl passL (pa_cons (pv 1) pa_nil))))
  (pss_one (ps_if (pt_val (pe_callB call_isi (by rfl) fx.b_isinstance bb_isinstance (pa_cons (pv 1) (pa_cons (pe_bltn (v := .ty "tuple") rfl fx.b_tuple bb_tuple rfl) pa_nil))))
  (pss_one (ps_expr (pe_fn Gs hr (by omega) rfl passL (pa_cons (pe_ix ix_tup (pv 1) pe_int (fun _ _ => rfl)) pa_nil))))
  pss_nil)))))
  (pss_one (ps_expr (pe_bm PySem.F.plainAttrs_list PySem.F.slot_list_append PySem.F.type_list_append mt_append (pv 0) (pa_cons pe_str pa_nil))))), ?_⟩
  try dsimp only [L2.cxOf]
  refine ⟨_, rfl, a, rfl, ⟨_, SqL.of e0⟩, for_list (xs := ys ++ List.replicate m0 moreV) (fun i σ H' => (∃ o1, σ = [some (.ref a), o1]) ∧ Grow (nlDs (l.take i)) (fun c => U c ∧ c ≠ a) H H') ⟨⟨none, rfl⟩, by rw [List.take_zero, nlDs]; exact Grow.refl⟩ (fun i σ H1 _ z => SqL.of (z.2.keep (fun q => q.2 rfl) e0)) ?_ ?_⟩
  · rintro i x σ H1 hx ⟨⟨o1, rfl⟩, g⟩
    have hgt : Grow (k0 + nlDs (l.take i)) AllA H0 H1 := hG.trans (g.mono (Nat.le_refl _) fun _ _ => trivial)
    by_cases hi : i < ys.length
    · rw [List.getElem?_append_left hi] at hx
      obtain ⟨d, hd1, rd⟩ := r.getV hx
      have hnl := nlDs_take l i d hd1
      have hnle := nlDs_le l (i + 1)
      have hsd := spDs_iff.mp hs.2 d (List.mem_of_getElem? hd1)
      have hdd := deDs_le.mp (Nat.le_refl (deDs l)) d (List.mem_of_getElem? hd1)
      have cases3 : (∃ t : String, TyX K H1 x (.type t) ∧ kitB t "list" = some false ∧ kitB t "tuple" = some false ∧ nlD d = 0) ∨ (∃ l', d = .lst l') ∨ ∃ l', d = .tup l' := by
        cases d with
        | bl b => rw [Rep] at rd; subst rd; exact .inl ⟨"bool", .base (.bl _), rfl, rfl, rfl⟩
        | int j => rw [Rep] at rd; subst rd; exact .inl ⟨"int", .base (.int _), rfl, rfl, rfl⟩
        | str t => rw [Rep] at rd; subst rd; exact .inl ⟨"str", .base (.str _), rfl, rfl, rfl⟩
        | lst l' => exact .inr (.inl ⟨_, rfl⟩)
        | tup l' => exact .inr (.inr ⟨_, rfl⟩)
        | non => simp [spD] at hsd
        | ty n => simp [spD] at hsd
        | adr n => simp [spD] at hsd
        | way n => simp [spD] at hsd
        | dic n => simp [spD] at hsd
      rcases cases3 with ⟨t, ht, k1, k2, n0⟩ | ⟨l', rfl⟩ | ⟨l', rfl⟩
      · refine isi_go (σ := [some (.ref a), some x]) (i := 1) rfl ht (b := false) k1 ?_
        rw [if_neg (by simp)]
        refine isi_go (σ := [some (.ref a), some x]) (i := 1) rfl ht (b := false) k2 ?_
        rw [if_neg (by simp)]
        exact ⟨⟨some x, rfl⟩, by rw [hnl, n0]; exact g⟩
      · have rd' := rd
        rw [Rep] at rd
        obtain ⟨b, zs, rfl, pb, eb, rz⟩ := rd
        obtain ⟨m', _, e'⟩ := hgt.lst eb
        refine isi_go (σ := [some (.ref a), some (.ref b)]) (i := 1) rfl (.base (.lst e')) (b := true) rfl ?_
        rw [if_pos rfl]
        refine ⟨.ref b, rfl, fun c => U c ∧ c ≠ a, H0, k0 + nlDs (l.take i), l', .ref b, rfl, hgt, rd', hsd, by omega, by omega, fun H2 g2 => ?_⟩
        exact ⟨⟨_, rfl⟩, by rw [hnl]; exact g.trans g2⟩
      · rw [spD] at hsd
        obtain ⟨b0, l'', rfl⟩ : ∃ b l'', l' = [.bl b, .lst l''] := by
          rcases hsd with ⟨h1, _⟩
          unfold tupOk at h1
          split at h1
          · exact ⟨_, _, rfl⟩
          · exact h1.elim
        rw [Rep] at rd
        obtain ⟨b, zs, rfl, sb, rz⟩ := rd
        obtain ⟨y, z, rfl, ry, rz⟩ := rz.two
        have sb1 : SqT K H1 b [y, z] := sqT_keep sb fun o n q => hgt.non n q
        refine isi_go (σ := [some (.ref a), some (.ref b)]) (i := 1) rfl (sqT_tyX sb1) (b := false) rfl ?_
        rw [if_neg (by simp)]
        refine isi_go (σ := [some (.ref a), some (.ref b)]) (i := 1) rfl (sqT_tyX sb1) (b := true) rfl ?_
        rw [if_pos rfl]
        have hn0 : nlD (.tup [.bl b0, .lst l'']) = nlD (.lst l'') := by simp [nlD, nlDs]
        rw [hn0] at hnl
        have hd0 : deD (.tup [.bl b0, .lst l'']) = deD (.lst l'') + 1 := by simp [deD, deDs]
        rw [hd0] at hdd
        simp only [spDs] at hsd
        refine ⟨.ref b, rfl, b, [y, z], 1, z, rfl, rfl, sb1, rfl, fun c => U c ∧ c ≠ a, H0, k0 + nlDs (l.take i), l'', z, rfl, hgt, rz, hsd.2.2.1, by omega, by omega, fun H2 g2 => ?_⟩
        exact ⟨⟨_, rfl⟩, by rw [hnl]; exact (g.trans g2).mono (by omega) fun _ q => q⟩
    · rw [List.getElem?_append_right (by omega), List.getElem?_replicate] at hx
      split at hx
      · obtain rfl : moreV = x := Option.some.inj hx
        have ht : TyX K H1 moreV (.type "str") := .base (.str _)
        refine isi_go (σ := [some (.ref a), some moreV]) (i := 1) rfl ht (b := false) rfl ?_
        rw [if_neg (by simp)]
        refine isi_go (σ := [some (.ref a), some moreV]) (i := 1) rfl ht (b := false) rfl ?_
        rw [if_neg (by simp)]
        refine ⟨⟨_, rfl⟩, ?_⟩
        rw [List.take_of_length_le (by omega)] at g ⊢
        exact g
      · cases hx
  · rintro σ H1 ⟨⟨o1, rfl⟩, g⟩
    have e1 := g.keep (fun q => q.2 rfl) e0
    rw [List.take_of_length_le (by rw [List.length_append]; omega)] at g
    refine ⟨_, rfl, .inl ⟨rfl, _, SqL.of e1⟩, a, _, moreV, rfl, rfl, e1, ?_, ?_⟩
    · rw [List.length_append, List.length_replicate, sizeLine_eq]; omega
    · refine hQ _ fun c o e => ?_
      by_cases hc : c = a
      · subst hc
        rw [e0] at e; cases e
        exact .inr ⟨pa, _, 1, rfl, by omega, upd_same⟩
      · rw [upd_ne hc]
        rcases g c o e with e2 | ⟨p1, xs, j, rfl, hj, e2⟩
        · exact .inl e2
        · exact .inr ⟨p1.1, xs, j, rfl, by omega, e2⟩
def cLRd (n : Nat) : CtA (List Node × T) := { args := fun a => [FD a.1, .str a.2], pre := (cRB n).pre, post := fun a d => (∃ fs, readBack a.1 a.2 = some fs ∧ d = .tup [.lst (fiL fs)]) ∨ (readBack a.1 a.2 = none ∧ ∃ m, inT a.2 m ∧ d = .int m) }
theorem ok_l_read {n : Nat} (fx : Fx K mg wc nf) (hx : PySem.W.exmOne K (.ref nf) (.ref nf) = some true) (hf : XfC K nf) (F : FnP K "_law_read" "_law_read" s_l_read f fd) (Gr : Fn P w K mg base "read_back" ["form", "text"] k (spA K wc nf (cRB n))) : FnOk P w K mg base (L2.CX P w) (k + 1) f fd ["_law_form_here", "_law_text_here"] (spA K wc nf (cLRd n)) := by
  refine F.ok sc_l_read (spA_len fun a _ => rfl) fun cdv A outer s H vs Q E hr h => ?_
  obtain ⟨⟨L, t⟩, P0, ds, hP, r, ⟨rfl, pre⟩, q, hb⟩ := h
  obtain ⟨v1, v2, rfl, r1, r2⟩ := r.two
  obtain ⟨f1, fd1, h1, h2, h3, h4⟩ := Gr.ex
  refine ⟨_, pss_one (ps_try_as (i := 2) rfl rfl sc_l_read.nd rfl rfl ⟨rfl, by decide, .inl fx.nfm⟩ (takes_of rfl rfl rfl rfl)
    (fun W pn xe tk _ => pss_one (ps_ret (pe_tup (pa_cons (pe_callS h4 hr rfl h1 h2 h3 (fun σ => passAt tk σ) (pa_cons (pv 0) (pa_cons (pv 1) pa_nil))) pa_nil))))
    (fun a oe cls d pn hz hfl => pss_one (ps_ret (pe_xf hf fx.nfa hz hfl (pv 2))))), ?_⟩
  refine ⟨v1, rfl, v2, rfl, (L, t), P0, _, hP, .cons r1 (.cons r2 .nil), ⟨rfl, pre⟩, fun d v H' hp s r' => ?_, fun m dd H' hb' s e => ?_⟩
  · obtain ⟨fs, h1, rfl⟩ : ∃ fs, readBack L t = some fs ∧ d = .lst (fiL fs) := hp
    refine ⟨by show 1 ≤ sizeLine; decide, fun a ha => ?_⟩
    have sm : Same H' (upd H' a (.tup [v])) := fun c o z => by rw [upd_ne (ne_of_none z ha)]; exact z
    exact q (.tup [.lst (fiL fs)]) _ _ (.inl ⟨fs, h1, rfl⟩) (fun c o z => sm c o (s c o z)) (by rw [Rep]; exact ⟨a, [v], rfl, SqT.of upd_same, .cons (r'.same sm) .nil⟩)
  · obtain ⟨hn, hm⟩ : readBack L t = none ∧ inT t m := hb'
    refine ⟨true, hx, fun _ a ha => ?_, fun q => Bool.noConfusion q⟩
    exact ⟨.ref a, rfl, rfl, rfl, dd, _, .int m, rfl, e, rfl, q (.int m) _ _ (.inr ⟨hn, m, hm, rfl⟩) s (by rw [Rep])⟩
end

/-! W28: whether something is a fill. -/
abbrev s_l_coded : Stmt := top 76
abbrev N_l_coded : List Str := ["_law_way_here", "_law_value_here", "_law_some", "_law_good", "_law_sign", "_law_told", "_law_found", "_law_at"]
theorem sc_l_coded : FnScope N_l_coded ["_law_way_here", "_law_value_here"] (defScope s_l_coded) := ⟨rfl, rfl, rfl, by decide +kernel, rfl, by decide +kernel, by decide +kernel⟩
abbrev s_l_sound : Stmt := top 80
abbrev N_l_sound : List Str := ["_law_nodes_here", "_law_fill_here", "_law_node", "_law_one_here", "_law_own"]
theorem sc_l_sound : FnScope N_l_sound ["_law_nodes_here", "_law_fill_here"] (defScope s_l_sound) := ⟨rfl, rfl, rfl, by decide +kernel, rfl, by decide +kernel, by decide +kernel⟩
def cCod : CtA (Way × Vl) := { args := fun a => [.str (wayS a.1), vlD a.2], pre := fun a => fits a.1 a.2 = true, post := fun _ d => ∃ t : T, d = .str t }
def isTx : D → Bool
  | .tup (.str t :: _) => decide (t = cs "text")
  | _ => false
def cSnd (m : Nat) : CtA (List Node × List Fill) := { args := fun a => [FD a.1, .lst (fiL a.2)], pre := fun a => gdL a.1 ∧ dpL a.1 < m ∧ okL a.1 a.2 ∧ (∃ N, (fiL a.2).length ≤ N ∧ N ≤ 16000000), post := fun _ d => d = .bl true }
theorem find_one (s : T) (c : Nat) : Txt.find (S s) (S [c]) = -1 ∨ ∃ k : Nat, Txt.find (S s) (S [c]) = (k : Int) ∧ k < s.length := by
  have e : Txt.find (S s) (S [c]) = Txt.find3 (S s) (S [c]) 0 := by
    unfold Txt.find Txt.find3
    have : (fromIndex (S s).length 0) = 0 := by unfold fromIndex; simp
    rw [this]
    generalize Builtin.Str.occurrences (S s) (S [c]) 0 (S s).length 1 = l
    cases l <;> rfl
  rw [e]
  rcases StrLaws.find3_spec (S s) c 0 with ⟨h1, _⟩ | ⟨k, h1, h2, h3, h4, h5⟩
  · exact .inl h1
  · exact .inr ⟨k, h1, h3⟩
section
variable {P : Program} {w : World} {K : PySem.W.Frag} {mg : Str → Option Value} {base : Heap} {f : Addr} {fd : FuncData} {wc : Way → Addr} {nf : Addr} {k : Nat}
theorem ok_l_coded (fx : Fx K mg wc nf) (F : FnP K "_law_coded" "_law_coded" s_l_coded f fd) : FnOk P w K mg base (L2.CX P w) (k + 1) f fd ["_law_way_here", "_law_value_here"] (spA K wc nf cCod) := by
  refine F.ok sc_l_coded (spA_len fun a _ => rfl) fun cdv A outer s H vs Q E hr h => ?_
  obtain ⟨⟨v, x⟩, pre, go⟩ := pure_A (N := N_l_coded) (fun a _ => by simp [cCod]) h
  have pre : fits v x = true := pre
  have hu := hu_of hr
  refine ⟨_, (pss_cons (ps_if (pt_cmpR op_eq (pv 0) pe_str (nomark _))
  (pss_cons (ps_if (PW.pt (pw_or (pt_not (pt_val (pe_callB call_isi (by rfl) fx.b_isinstance bb_isinstance (pa_cons (pv 1) (pa_cons (pe_bltn (v := .ty "int") rfl fx.b_int bb_int rfl) pa_nil))))) (pw_or (pt_val (pe_callB call_isi (by rfl) fx.b_isinstance bb_isinstance (pa_cons (pv 1) (pa_cons (pe_bltn (v := .ty "bool") rfl fx.b_bool bb_bool rfl) pa_nil)))) (pw_or1 (pt_cmpR op_ge (pe_callB call_abs (by rfl) fx.b_abs bb_abs (pa_cons (pv 1) pa_nil)) (pe_op op_pow pe_int pe_int) (nomark _))))))
  (pss_one (ps_ret pe_non))
  pss_nil)
  (pss_one (ps_ret (pe_callTy call_str_int (by rfl) fx.b_str bb_str (pa_cons (pv 1) pa_nil)))))
  pss_nil)
  (pss_cons (ps_if (PW.pt (pw_or (pt_not (pt_val (pe_callB call_isi (by rfl) fx.b_isinstance bb_isinstance (pa_cons (pv 1) (pa_cons (pe_bltn (v := .ty "str") rfl fx.b_str bb_str rfl) pa_nil))))) (pw_or1 (pt_cmpR op_gt (pe_callB call_len_str (by rfl) fx.b_len bb_len (pa_cons (pv 1) pa_nil)) pe_int (nomark _)))))
  (pss_one (ps_ret pe_non))
  pss_nil)
  (pss_cons (ps_if (pt_cmpR op_eq (pv 0) pe_str (nomark _))
  (pss_cons (ps_set (i := 2) sc_l_coded.nd rfl (Or.inr rfl) pe_str)
  (pss_cons (ps_set (i := 3) sc_l_coded.nd rfl (Or.inl rfl) (pe_and (pe_chain op_le op_le pe_int (pe_callB call_len_str (by rfl) fx.b_len bb_len (pa_cons (pv 1) pa_nil)) pe_int) (pe_one (pe_cmpR (op_eqD (hu64 hr)) (pe_lc (own := [("_law_sign", 4)]) (by rfl) sc_l_coded.nd (pi_str (pv 1)) (blkOk_by (own := [("_law_sign", 4)]) (N := N_l_coded) (sc := defScope s_l_coded) (by decide +kernel)) (fun _ _ _ _ _ => (pg_name (i := 4) sc_l_coded.nd rfl (Or.inl rfl))) (fun _ _ _ _ _ => (pts_one (pt_cmpR op_notIn_sign (pv 4) (pv 2) rfl))) (fun _ _ _ _ _ => (pv 4))) (pe_lst pa_nil) (nomark _)))))
  (pss_one (ps_ret (pe_ifExp (pt_val (pv 3)) (pv 1) pe_non)))))
  pss_nil)
  (pss_cons (ps_set (i := 5) sc_l_coded.nd rfl (Or.inl rfl) (pe_dget hu (pe_disp (pps_cons pe_str pe_str (pps_cons pe_str pe_str (pps_cons pe_str pe_str pps_nil))) rfl rfl (fun z => by cases z) (by decide)) (pv 0) (fun _ _ => rfl)))
  (pss_cons (ps_set (i := 6) sc_l_coded.nd rfl (Or.inl rfl) pe_str)
  (pss_cons (ps_for (passes_of rfl) (by rfl) (pi_str (pv 1)) (pg_name (i := 4) sc_l_coded.nd rfl (Or.inl rfl))
  (pss_cons (ps_set (i := 7) sc_l_coded.nd rfl (Or.inl rfl) (pe_m1 PySem.F.slot_str_find PySem.F.type_str_find mt_find (pe_even (pv 5)) (pv 4)))
  (pss_one (ps_set (i := 6) sc_l_coded.nd rfl (Or.inl rfl) (pe_op op_add_str (pv 6) (pe_ifExp (pt_cmpR op_lt (pv 7) pe_int (nomark _)) (pv 4) (pe_op op_add_str (pe_ix ix_str (pv 5) pe_int (fun _ _ => rfl)) (pe_ix ix_str (pv 5) (pe_op op_add (pe_op op_mul pe_int (pv 7)) pe_int) (fun _ _ => rfl)))))))))
  (pss_one (ps_ret (pe_ifExp (pt_cmpR op_eq (pv 0) pe_str (nomark _)) (pe_op op_add_str (pe_op op_add_str pe_str (pv 6)) pe_str) (pv 6)))))))))), go _ (?_ : wS _ _ ⟨[some (.val (.str (wayS v))), some (.val (vlD x)), none, none, none, none, none, none], none, 0⟩ _)⟩
  try dsimp only [L2.cxOf]
  cases x with
  | num i =>
    obtain rfl : v = .number := by cases v <;> first | rfl | (cases pre)
    have pre : (decide (-(10 : Int) ^ 30 < i) && decide (i < (10 : Int) ^ 30)) = true := pre
    rw [vlD]
    repeat' walk_at "v"
    · exact ⟨by decide, by decide, by decide⟩
    refine ite_b (fun hb => ?_) fun hb => ?_
    · exfalso
      have e30 : (10 : Int) ^ Int.toNat 30 = 1000000000000000000000000000000 := by decide
      have e30' : (10 : Int) ^ 30 = 1000000000000000000000000000000 := by decide
      obtain ⟨h1, h2⟩ := Bool.and_eq_true_iff.mp pre
      have h1 := of_decide_eq_true h1
      have h2 := of_decide_eq_true h2
      have hb := of_decide_eq_true hb
      rw [e30] at hb
      rw [e30'] at h1 h2
      split at hb <;> omega
    · repeat' walk_at "v"
      · exact log_num pre
      · exact ⟨_, rfl⟩
  | txt t =>
    have hv : v ≠ .number := by rintro rfl; cases pre
    have h400 : t.length ≤ 400 := by cases v <;> simp [fits] at pre <;> omega
    rw [vlD]
    repeat' walk_at "v"
    refine ite_b (fun hb => ?_) fun hb => ?_
    · exact absurd (of_decide_eq_true hb) (by cases v <;> first | (exact absurd rfl hv) | decide)
    repeat' walk_at "v"
    · omega
    refine ite_b (fun hb2 => ?_) fun hb2 => ?_
    · exact absurd (of_decide_eq_true hb2) (by omega)
    repeat' walk_at "v"
    refine ite_b (fun hb3 => ?_) fun hb3 => ?_
    · obtain rfl : v = .word := by cases v <;> first | rfl | (exact absurd (of_decide_eq_true hb3) (by decide))
      have hpre : (decide (1 ≤ t.length) && decide (t.length ≤ 40) && t.all (fun c => decide (c ∈ ALN))) = true := pre
      obtain ⟨hp1, hp3⟩ := Bool.and_eq_true_iff.mp hpre
      obtain ⟨hp1, hp2⟩ := Bool.and_eq_true_iff.mp hp1
      have hp1 := of_decide_eq_true hp1
      have hp2 := of_decide_eq_true hp2
      refine wS_seq ?_
      repeat' walk_at "y"
      refine wS_seq ?_
      repeat' walk_at "y"
      · omega
      rw [decide_eq_true (show (1 : Int) ≤ (t.length : Int) by omega)]
      repeat' walk_at "y"
      rw [decide_eq_true (show (t.length : Int) ≤ 40 by omega)]
      repeat' walk_at "y"
      refine wE_lcF (sgB fun c => !decide (c ∈ ALN)) (gw_name (by simp)) ?_
      repeat' walk_at "y"
      refine ⟨by simp; omega, fun i d hd => ?_, ?_⟩
      · obtain ⟨c, hc, rfl⟩ := sgs_get hd
        repeat' walk_at "y"
        rw [show (Str.ofString "abcdefghijklmnopqrstuvwxyzABCDEFGHIJKLMNOPQRSTUVWXYZ0123456789").1.toList = ALN from by decide +kernel]
        refine ⟨rfl, rfl, fun _ => ?_⟩
        repeat' walk_at "y"
        exact ⟨rfl, rfl⟩
      · have hnil : (sgs t).filter (sgB fun c => !decide (c ∈ ALN)) = [] := by
          rw [sgs_filter, List.filter_eq_nil_iff.mpr]
          · rfl
          · intro c hc
            have := List.all_eq_true.mp hp3 c hc
            show ¬ (!decide (c ∈ ALN)) = true
            rw [this]; simp
        rw [hnil]
        repeat' walk_at "y"
        refine wR_eqD (by rw [okD, okDs]; trivial) (by rw [okD, okDs]; trivial) (by simp [deD, deDs]) (by simp [deD, deDs]) ?_
        rw [eqv_nil]
        repeat' walk_at "v"
        exact ⟨t, rfl⟩
    · repeat' walk_at "y"
      refine wS_seq ?_
      refine wS_set (wE_dget (t := []) ?_)
      refine wE_disp (.cons (.cons (.cons .nil))) (by decide) rfl ?_
      repeat' walk_at "y"
      have hlk : ∃ u : T, lkD [((Str.ofString "quoted").cps.toList, (Str.ofString "^^\"q\nn").cps.toList), ((Str.ofString "plain").cps.toList, (Str.ofString "~~<l>g&a|b\nn").cps.toList), ((Str.ofString "line").cps.toList, (Str.ofString "~~\nn").cps.toList)] (wayS v) = some u ∧ u.length ≤ 100 ∧ 0 < u.length ∧ (evens (S u)).length ≤ 100 ∧ 2 * (evens (S u)).cps.toList.length ≤ u.length := by
        have hw : v ≠ .word := fun z => by subst z; exact absurd hb3 (by decide)
        cases v with
        | word => exact absurd rfl hw
        | number => exact absurd rfl hv
        | quoted => exact ⟨_, rfl, by decide +kernel, by decide +kernel, by decide +kernel, by decide +kernel⟩
        | plain => exact ⟨_, rfl, by decide +kernel, by decide +kernel, by decide +kernel, by decide +kernel⟩
        | line => exact ⟨_, rfl, by decide +kernel, by decide +kernel, by decide +kernel, by decide +kernel⟩
      obtain ⟨u, hu1, hu2, hu3, hu4, hu5⟩ := hlk
      refine ⟨_, u, rfl, hu1, ?_⟩
      refine wS_seq ?_
      repeat' walk_at "y"
      refine wS_seq ?_
      repeat' walk_at "y"
      refine ⟨fun i δ => ∃ (g : T) (o4 o7 : Option Cell), g.length ≤ 2 * i ∧ δ = ⟨[some (.val (.str (wayS v))), some (.val (.str t)), none, none, o4, some (.val (.str u)), some (.val (.str g)), o7], none, 0⟩, ⟨[], none, none, by simp, by rw [cps_nil]; rfl⟩, ?_, ?_⟩
      · rintro i d δ hd ⟨g, o4, o7, hg, rfl⟩
        obtain ⟨c, hc, rfl⟩ := sgs_get hd
        have hi := (List.getElem?_eq_some_iff.mp hc).1
        repeat' walk_at "v"
        refine ⟨by omega, by omega, ?_⟩
        repeat' walk_at "v"
        have fin : ∀ (i7 : Int) (y : T), y.length ≤ 2 → ∃ (g' : T) (o4' o7' : Option Cell), g'.length ≤ 2 * (i + 1) ∧ DSt.mk [some (.val (.str (wayS v))), some (.val (.str t)), none, none, some (.val (.str [c])), some (.val (.str u)), some (.val (.str (g ++ y))), some (.val (.int i7))] none 0 = ⟨[some (.val (.str (wayS v))), some (.val (.str t)), none, none, o4', some (.val (.str u)), some (.val (.str g')), o7'], none, 0⟩ := fun i7 y hy => ⟨g ++ y, _, _, by rw [List.length_append]; omega, rfl⟩
        rcases find_one (evens (S u)).cps.toList c with hf | ⟨j, hf, hj⟩
        · rw [hf]
          refine ite_b (fun hb => ?_) fun hb => ?_
          · repeat' walk_at "v"
            · simp only [List.length_singleton]; omega
            · exact fin _ [c] (by simp)
          · exact absurd hb (by decide)
        · rw [hf]
          refine ite_b (fun hb => ?_) fun hb => ?_
          · exact absurd (of_decide_eq_true hb) (by omega)
          · repeat' walk_at "v"
            refine wR_ixS (n := 0) (by omega) rfl (List.getElem?_eq_getElem hu3) ?_
            repeat' walk_at "v"
            refine wR_ixS (n := 2 * j + 1) (by omega) (by omega) (List.getElem?_eq_getElem (by omega)) ?_
            repeat' walk_at "v"
            · simp
            · simp only [List.length_append, List.length_singleton]; omega
            · exact fin _ _ (by simp)
      · rintro δ ⟨g, o4, o7, hg, rfl⟩
        have hg : g.length ≤ 800 := by
          have e : (sgs t).length = t.length := List.length_map _
          rw [e] at hg; omega
        repeat' walk_at "v"
        refine ite_b (fun hb => ?_) fun hb => ?_
        · repeat' walk_at "v"
          · have e1 : (Str.ofString "\"").1.toList.length = 1 := by decide
            have hgl : List.length g ≤ 802 := by clear hb; omega
            exact Nat.le_trans (Nat.add_le_add (Nat.le_of_eq e1) hgl) (by decide)
          · have e1 : (Str.ofString "\"").1.toList.length = 1 := by decide
            have hgl : List.length g ≤ 802 := by clear hb; omega
            rw [List.length_append]
            exact Nat.le_trans (Nat.add_le_add (Nat.add_le_add (Nat.le_of_eq e1) hgl) (Nat.le_of_eq e1)) (by decide)
          exact ⟨_, rfl⟩
        · repeat' walk_at "v"
          exact ⟨_, rfl⟩
end

/-! W29: whether something is a fill, second. -/
def cSou (m : Nat) : CtA (List Node × List Fill) := { args := fun a => [FD a.1, .lst (fiL a.2)], pre := fun a => (gdL a.1 ∧ nvL a.1 ∧ dpL a.1 < m) ∧ okL a.1 a.2 ∧ (spL a.1 a.2).length ≤ 16000000, post := fun _ d => d = .bl true }
def nts (L : List Node) : List Node := L.filter fun n => !isText n
theorem okL_nts : ∀ {L : List Node} {fs : List Fill}, okL L fs → (nts L).length = fs.length ∧ ∀ (i : Nat) (x : Node) (f : Fill), (nts L)[i]? = some x → fs[i]? = some f → okN x f ∧ (spN x f).length ≤ (spL L fs).length
  | [], [], h => ⟨rfl, fun i x f h => by simp [nts] at h⟩
  | [], _ :: _, h => by simp [okL] at h
  | n :: L, fs, h => by
    cases ht : isText n with
    | true =>
      obtain ⟨t, rfl⟩ : ∃ t, n = .text t := by
        cases n with
        | text t => exact ⟨t, rfl⟩
        | _ => cases ht
      rw [okL] at h
      have ih := okL_nts h
      have e : nts (.text t :: L) = nts L := by simp [nts, isText]
      rw [e, spL]
      refine ⟨ih.1, fun i x f h1 h2 => ?_⟩
      have := ih.2 i x f h1 h2
      refine ⟨this.1, ?_⟩
      rw [List.length_append]; omega
    | false =>
      obtain ⟨f, r, rfl, ho, hr⟩ := okL_node ht h
      have ih := okL_nts hr
      have e : nts (n :: L) = n :: nts L := by simp [nts, ht]
      rw [e, spL_node ht]
      refine ⟨by simp [ih.1], fun i x g h1 h2 => ?_⟩
      rw [List.length_append]
      cases i with
      | zero =>
        obtain rfl : n = x := by simpa using h1
        obtain rfl : f = g := by simpa using h2
        exact ⟨ho, by omega⟩
      | succ i =>
        have := ih.2 i x g (by simpa using h1) (by simpa using h2)
        exact ⟨this.1, by omega⟩
theorem isTx_nd (x : Node) : isTx (ndN x) = isText x := by
  cases x <;> rw [ndN] <;> simp only [isTx, isText] <;> decide
theorem nts_ndL (L : List Node) : (ndL L).filter (fun d => !isTx d) = ndL (nts L) := by
  rw [ndL_map, ndL_map, nts, List.filter_map]
  congr 1
  apply List.filter_congr
  intro x _
  show (!isTx (ndN x)) = !isText x
  rw [isTx_nd]
section
variable {P : Program} {w : World} {K : PySem.W.Frag} {mg : Str → Option Value} {base : Heap} {f : Addr} {fd : FuncData} {wc : Way → Addr} {nf : Addr} {k : Nat}
theorem ok_l_sound {m : Nat} (fx : Fx K mg wc nf) (F : FnP K "_law_sound" "_law_sound" s_l_sound f fd) (Gc : Fn P w K mg base "_law_coded" ["_law_way_here", "_law_value_here"] k (spA K wc nf cCod)) (Gs : Fn P w K mg base "_law_sound" ["_law_nodes_here", "_law_fill_here"] k (spA K wc nf (cSou m))) :
    FnOk P w K mg base (L2.CX P w) (k + 1) f fd ["_law_nodes_here", "_law_fill_here"] (spA K wc nf (cSou (m + 1))) := by
  refine F.ok sc_l_sound (spA_len fun a _ => rfl) fun cdv A outer s H vs Q E hr h => ?_
  obtain ⟨⟨L, fs⟩, pre, go⟩ := pure_A (N := N_l_sound) (fun a _ => by simp [cSou]) h
  obtain ⟨⟨hg, hnv, hd⟩, ho, hl⟩ : (gdL L ∧ nvL L ∧ dpL L < m + 1) ∧ okL L fs ∧ (spL L fs).length ≤ 16000000 := pre
  have hn := okL_nts ho
  have hLl := gdL_len hg
  have hNl : (nts L).length ≤ 1001 := Nat.le_trans (List.length_filter_le _ _) hLl
  refine ⟨_, (pss_cons (ps_setLc (i := 0) (own := [("_law_node", 2)]) (by rfl) sc_l_sound.nd rfl rfl (sw_true rfl rfl rfl (by decide +kernel)) (pi_tup (pv 0)) (blkOk_by (own := [("_law_node", 2)]) (N := N_l_sound) (sc := defScope s_l_sound) (by decide +kernel)) (fun _ _ _ _ _ => (pg_name (i := 2) sc_l_sound.nd rfl (Or.inl rfl))) (fun _ _ _ _ _ => (pts_one (pt_cmpR op_ne (pe_ix (show IxR _ (rIxT K) from ix_tup) (pv 2) pe_int (fun _ _ => rfl)) pe_str (nomark _)))) (fun _ _ _ _ _ => (pv 2)))
  (pss_cons (ps_if (PW.pt (pw_or (pt_not (pt_val (pe_callB call_isi (by rfl) fx.b_isinstance bb_isinstance (pa_cons (pv 1) (pa_cons (pe_bltn (v := .ty "list") rfl fx.b_list bb_list rfl) pa_nil))))) (pw_or1 (pt_cmpR op_ne (pe_callB call_len_seq (by rfl) fx.b_len bb_len (pa_cons (pv 1) pa_nil)) (pe_callB call_len_seq (by rfl) fx.b_len bb_len (pa_cons (pv 0) pa_nil)) (nomark _)))))
  (pss_one (ps_ret pe_bl))
  pss_nil)
  (pss_cons (ps_for (passes_of rfl) (by rfl) (pi_zip (by rfl) fx.b_zip (pa_cons (pv 0) (pa_cons (pv 1) pa_nil))) (pg_tup (by rfl) (pgs_cons (pg_name (i := 2) sc_l_sound.nd rfl (Or.inr rfl)) (pgs_cons (pg_name (i := 3) sc_l_sound.nd rfl (Or.inl rfl)) pgs_nil)))
  (pss_cons (ps_if (PW.pt (pw_and (pt_cmpR op_eq (pe_ix ix_tup (pv 2) pe_int (fun _ _ => rfl)) pe_str (nomark _)) (pw_and1 (pt_cmpR op_isN (pe_fn Gc hr (by omega) rfl passL (pa_cons (pe_ix ix_tup (pv 2) pe_int (fun _ _ => rfl)) (pa_cons (pv 3) pa_nil))) pe_non (nomark _)))))
  (pss_one (ps_ret pe_bl))
  pss_nil)
  (pss_cons (ps_if (pt_cmpR op_eq (pe_ix ix_tup (pv 2) pe_int (fun _ _ => rfl)) pe_str (nomark _))
  (pss_one (ps_if (PW.pt (pw_or (pt_not (pt_val (pe_callB call_isi (by rfl) fx.b_isinstance bb_isinstance (pa_cons (pv 3) (pa_cons (pe_bltn (v := .ty "list") rfl fx.b_list bb_list rfl) pa_nil))))) (pw_or1 (pt_not (pt_val (pe_callB (cr_all (by rfl)) (by rfl) fx.b_all bb_all (pa_cons (pe_lc (own := [("_law_own", 4)]) (by rfl) sc_l_sound.nd (pi_list (pv 3)) (blkOk_by (own := [("_law_own", 4)]) (N := N_l_sound) (sc := defScope s_l_sound) (by decide +kernel)) (fun _ _ _ _ _ => (pg_name (i := 4) sc_l_sound.nd rfl (Or.inl rfl))) (fun _ _ _ _ _ => pts_nil) (fun _ _ _ _ _ => (pe_fn Gs hr (by omega) rfl passL (pa_cons (pe_ix (show IxR _ (rIxT K) from ix_tup) (pv 2) pe_int (fun _ _ => rfl)) (pa_cons (pv 4) pa_nil))))) pa_nil)))))))
  (pss_one (ps_ret pe_bl))
  pss_nil))
  pss_nil)
  (pss_one (ps_if (pt_cmpR op_eq (pe_ix ix_tup (pv 2) pe_int (fun _ _ => rfl)) pe_str (nomark _))
  (pss_cons (ps_if (PW.pt (pw_or (pt_not (pt_val (pe_callB call_isi (by rfl) fx.b_isinstance bb_isinstance (pa_cons (pv 3) (pa_cons (pe_bltn (v := .ty "tuple") rfl fx.b_tuple bb_tuple rfl) pa_nil))))) (pw_or (pt_cmpR op_ne (pe_callB call_len_seq (by rfl) fx.b_len bb_len (pa_cons (pv 3) pa_nil)) pe_int (nomark _)) (pw_or1 (pt_not (pt_val (pe_callB call_isi (by rfl) fx.b_isinstance bb_isinstance (pa_cons (pe_ix ix_tup (pv 3) pe_int (fun _ _ => rfl)) (pa_cons (pe_bltn (v := .ty "bool") rfl fx.b_bool bb_bool rfl) pa_nil)))))))))
  (pss_one (ps_ret pe_bl))
  pss_nil)
  (pss_one (ps_if (pt_not (pt_val (pe_fn Gs hr (by omega) rfl passL (pa_cons (pe_ix ix_tup (pv 2) (pe_op op_add pe_int (pe_callTy call_int1 (by rfl) fx.b_int bb_int (pa_cons (pe_not (pe_ix ix_tup (pv 3) pe_int (fun _ _ => rfl))) pa_nil))) (fun _ _ => rfl)) (pa_cons (pe_ix ix_tup (pv 3) pe_int (fun _ _ => rfl)) pa_nil)))))
  (pss_one (ps_ret pe_bl))
  pss_nil)))
  pss_nil)))))
  (pss_one (ps_ret pe_bl))))), go _ (?_ : wS _ _ ⟨[some (.val (FD L)), some (.val (.lst (fiL fs))), none, none, none], none, 0⟩ _)⟩
  try dsimp only [L2.cxOf]
  refine wS_seq ?_
  repeat' walk_at "y"
  refine wE_lcF (fun d => !isTx d) (gw_name (by simp)) ?_
  repeat' walk_at "y"
  refine ⟨by rw [ndL_len]; omega, fun i d hdd => ?_, ?_⟩
  · obtain ⟨x, hx, rfl⟩ := ndL_get hdd
    cases x with
    | text t =>
      rw [nd_text]
      repeat' walk_at "y"
      exact ⟨rfl, rfl, fun h => absurd h (by simp [isTx])⟩
    | place p v =>
      rw [ndN]
      repeat' walk_at "y"
      refine ⟨rfl, rfl, fun _ => ?_⟩
      repeat' walk_at "y"
      exact ⟨rfl, rfl⟩
    | loop nm p b btw =>
      rw [ndN]
      repeat' walk_at "y"
      refine ⟨rfl, rfl, fun _ => ?_⟩
      repeat' walk_at "y"
      exact ⟨rfl, rfl⟩
    | choice p y n =>
      rw [ndN]
      repeat' walk_at "y"
      refine ⟨rfl, rfl, fun _ => ?_⟩
      repeat' walk_at "y"
      exact ⟨rfl, rfl⟩
  rw [nts_ndL]
  repeat' walk_at "v"
  rw [show (!decide (((fiL fs).length : Int) = ((ndL (nts L)).length : Int))) = false from by rw [fiL_len, ndL_len, hn.1]; simp]
  repeat' walk_at "v"
  refine ⟨by rw [fiL_len, ndL_len, hn.1], fun i δ => ∃ (o2 o3 o4 : Option Cell), δ = ⟨[some (.val (.lst (ndL (nts L)))), some (.val (.lst (fiL fs))), o2, o3, o4], none, 0⟩, ⟨none, none, none, rfl⟩, ?_, ?_⟩
  · rintro i dd δ hdd ⟨o2, o3, o4, rfl⟩
    rw [List.getElem?_map] at hdd
    obtain ⟨⟨d1, d2⟩, hz, rfl⟩ := Option.map_eq_some_iff.mp hdd
    rw [List.getElem?_zip_eq_some] at hz
    obtain ⟨hz1, hz2⟩ := hz
    obtain ⟨x, hx, rfl⟩ := ndL_get hz1
    obtain ⟨q, hq, rfl⟩ : ∃ q, fs[i]? = some q ∧ d2 = fiD q := by
      have hz2 : (fiL fs)[i]? = some d2 := hz2
      rw [fiL_map, List.getElem?_map] at hz2
      obtain ⟨q, hq, e⟩ := Option.map_eq_some_iff.mp hz2
      exact ⟨q, hq, e.symm⟩
    obtain ⟨hox, hlx⟩ := hn.2 i x q hx hq
    have hmem : x ∈ L ∧ isText x = false := by
      have := List.mem_filter.mp (List.mem_of_getElem? hx)
      exact ⟨this.1, by simpa using this.2⟩
    have hgx := gdL_mem hg x hmem.1
    have hdx := dpL_le.mp (Nat.le_refl (dpL L)) x hmem.1
    have hnx := nvL_mem hnv x hmem.1
    refine wG_tup (is := [2, 3]) rfl rfl ?_
    dsimp only [puts]
    cases x with
    | text t => exact absurd hmem.2 (by simp [isText])
    | place p v =>
      obtain ⟨z, rfl⟩ : ∃ z, q = .val z := by
        cases q with
        | val z => exact ⟨_, rfl⟩
        | rounds rs => exact False.elim hox
        | side c fs => exact False.elim hox
      rw [okN] at hox
      rw [ndN, fiD]
      repeat' walk_at "v"
      refine ⟨(v, z), hox, rfl, fun d hd => ?_, fun _ => id⟩
      obtain ⟨t, rfl⟩ : ∃ t : T, d = .str t := hd
      repeat' walk_at "v"
      refine wR_isN (.str t) ?_
      rw [decide_eq_false (show ¬ V.str (S t) = .non from fun e => by cases e)]
      repeat' walk_at "v"
      exact ⟨_, _, o4, rfl⟩
    | loop nm p b btw =>
      obtain ⟨rs, rfl⟩ : ∃ rs, q = .rounds rs := by
        cases q with
        | val z => exact False.elim hox
        | rounds rs => exact ⟨_, rfl⟩
        | side c fs => exact False.elim hox
      rw [gdN] at hgx; rw [nvN] at hnx; rw [dpN] at hdx; rw [okN] at hox
      have esp : spN (.loop nm p b btw) (.rounds rs) = join btw (rs.map fun r => spL b r) := by rw [spN]
      rw [esp] at hlx
      have hrn := rounds_le (btw := btw) (gdL_va b hgx.1) hnx.1 rs hox
      rw [ndN, fiD]
      repeat' walk_at "v"
      refine wE_lcM (gw_name (by simp)) ?_
      repeat' walk_at "v"
      refine ⟨(List.replicate rs.length true).map D.bl, by rw [fiR_len]; omega, by simp [fiR_len], fun i d hdd => ?_, ?_⟩
      · rw [fiR_map, List.getElem?_map] at hdd
        obtain ⟨r, hr, rfl⟩ := Option.map_eq_some_iff.mp hdd
        have hm := List.mem_of_getElem? hr
        have hi1 := (List.getElem?_eq_some_iff.mp hr).1
        repeat' walk_at "v"
        refine ⟨(b, r), ⟨⟨hgx.1, hnx.2, by show dpL b < m; omega⟩, hox r hm, ?_⟩, rfl, fun d hd => ?_, fun _ => id⟩
        · have := join_mem btw (rs.map fun r => spL b r) (spL b r) (List.mem_map.mpr ⟨r, hm, rfl⟩)
          show (spL b r).length ≤ 16000000
          omega
        · rw [hd]
          exact ⟨by simp [List.getElem?_replicate, hi1], rfl⟩
      · repeat' walk_at "v"
        rw [show (List.replicate rs.length true).all id = true from by simp]
        repeat' walk_at "v"
        exact ⟨_, _, o4, rfl⟩
    | choice p y n =>
      obtain ⟨bb, gs, rfl⟩ : ∃ bb gs, q = .side bb gs := by
        cases q with
        | val z => exact False.elim hox
        | rounds rs => exact False.elim hox
        | side c fs => exact ⟨_, _, rfl⟩
      rw [gdN] at hgx; rw [nvN] at hnx; rw [dpN] at hdx; rw [okN] at hox
      rw [ndN, fiD]
      rw [spN] at hlx
      cases bb with
      | true =>
        repeat' walk_at "v"
        refine ⟨(y, gs), ⟨⟨hgx.1, hnx.1, by show dpL y < m; omega⟩, hox, by show (spL y gs).length ≤ 16000000; rw [if_pos rfl] at hlx; omega⟩, rfl, fun d hd => ?_, fun _ => id⟩
        rw [hd]
        repeat' walk_at "v"
        exact ⟨_, _, o4, rfl⟩
      | false =>
        repeat' walk_at "v"
        refine ⟨(n, gs), ⟨⟨hgx.2, hnx.2, by show dpL n < m; omega⟩, hox, by show (spL n gs).length ≤ 16000000; rw [if_neg (by simp)] at hlx; omega⟩, rfl, fun d hd => ?_, fun _ => id⟩
        rw [hd]
        repeat' walk_at "v"
        exact ⟨_, _, o4, rfl⟩
  · rintro δ ⟨o2, o3, o4, rfl⟩
    repeat' walk_at "v"
    rfl
end

/-! W30: the long form and its fill. -/
abbrev s_l_long : Stmt := top 82
abbrev N_l_long : List Str := ["_law_cells", "_law_spot", "_law_n", "_law_way_here", "_law_rounds", "_law_k", "_law_marks_here", "_law_j", "_law_own"]
theorem sc_l_long : FnScope N_l_long ["_law_cells", "_law_spot"] (defScope s_l_long) := ⟨rfl, rfl, rfl, by decide +kernel, rfl, by decide +kernel, by decide +kernel⟩
/-- a clear form and a fill of it, not too great -/
structure FlG (L : List Node) (fs : List Fill) : Prop where
  gd : gdL L
  cl : clL L ([], true) = true
  dpb : dpL L ≤ 23
  ok : okL L fs
  len : (spL L fs).length ≤ 5000000
  cnt : dFs fs + rFs fs ≤ 100000
def cLong : CtB (List Int) := { args := fun s a => [intsD a, .adr s], pre := fun a k => a.length ≤ 1000 ∧ 0 ≤ k ∧ k ≤ 100000000, post := fun _ k d k' => k' = k + 1 ∧ ∃ L fs, d = .tup [FD L, .lst (fiL fs)] ∧ FlG L fs }
def lgL (v : Way) : List Node := [.loop [97] [[98]] [.text [42], .place [[97]] v, .text [10]] [], .text [35]]
def lgR (ts : List T) : List (List Fill) := ts.map fun t => [.val (.txt t)]
theorem lg_ok {v : Way} {ts : List T} (hv : v = .plain ∨ v = .line ∨ v = .quoted) (ht : ∀ t ∈ ts, allSG t = true ∧ t.length ≤ 400) (hl : ts.length ≤ 43) : FlG (lgL v) [.rounds (lgR ts)] := by
  have hd : ∀ ts : List T, dR (lgR ts) = ts.length ∧ rR (lgR ts) = 0 := by
    intro ts
    induction ts with
    | nil => exact ⟨rfl, rfl⟩
    | cons t ts ih =>
      obtain ⟨h1, h2⟩ := ih
      show dR ([.val (.txt t)] :: lgR ts) = _ ∧ rR ([.val (.txt t)] :: lgR ts) = _
      rw [dR, rR, h1, h2]
      simp [dFs, dF, rFs, rF]; omega
  have hR : (lgR ts).length = ts.length := List.length_map _
  have c1 : dFs [.rounds (lgR ts)] = 1 + ts.length := by simp [dFs, dF, (hd ts).1]
  have c2 : rFs [.rounds (lgR ts)] = ts.length := by simp [rFs, rF, (hd ts).2, hR]
  have ok : okL (lgL v) [.rounds (lgR ts)] := by
    unfold lgL
    have : okN (.loop [97] [[98]] [.text [42], .place [[97]] v, .text [10]] []) (.rounds (lgR ts)) := by
      rw [okN]
      intro r hr
      obtain ⟨t, htm, rfl⟩ := List.mem_map.mp hr
      obtain ⟨h1, h2⟩ := ht t htm
      have hf : fits v (.txt t) = true := by
        have : (decide (t.length ≤ 400) && allSG t) = true := by rw [decide_eq_true h2, h1]; rfl
        rcases hv with rfl | rfl | rfl <;> exact this
      have e : okN (.place [[97]] v) (.val (.txt t)) := by rw [okN]; exact hf
      rw [okL]
      exact ⟨e, by rw [okL, okL]; trivial⟩
    exact ⟨this, by rw [okL, okL]; trivial⟩
  refine ⟨?_, ?_, ?_, ok, ?_, by omega⟩
  · unfold lgL
    have h1 : gdL [.text [42], .place [[97]] v, .text [10]] := by
      simp [gdL, gdN]; decide
    rw [gdL, gdL, gdL, gdN, gdN]
    refine ⟨⟨h1, by decide, by simp⟩, ⟨⟨by simp, by decide, by simp⟩, trivial, by simp⟩, by simp⟩
  · rcases hv with rfl | rfl | rfl <;> decide +kernel
  · simp [lgL, dpL, dpN]
  · have hk : tkL 30 (lgL v) := by simp [lgL, tkL, tkN, txL, txN]
    have := spL_len 30 (lgL v) _ hk ok
    have e : txL (lgL v) = 1 := by simp [lgL, txL, txN]
    omega
section
variable {P : Program} {w : World} {K : PySem.W.Frag} {mg : Str → Option Value} {base : Heap} {f : Addr} {fd : FuncData} {wc : Way → Addr} {nf : Addr} {k : Nat}
theorem ok_l_long (fx : Fx K mg wc nf) (F : FnP K "_law_long" "_law_long" s_l_long f fd) (Gc : Fn P w K mg base "_law_cell" ["_law_cells", "_law_spot"] k (spB K wc cCell)) (Gm : Fn P w K mg base "_law_marks" [] k (spA K wc nf cMarks)) :
    FnOk P w K mg base (L2.CX P w) (k + 1) f fd ["_law_cells", "_law_spot"] (spB K wc cLong) := by
  refine F.ok sc_l_long (spB_len fun _ _ _ _ => rfl) fun cdv A outer s H vs Q E hr h => ?_
  obtain ⟨cells, go⟩ := pure_B (nf := nf) (N := N_l_long) (fun _ _ _ _ => by simp [cLong]) h
  refine ⟨_, (pss_cons (ps_set (i := 2) sc_l_long.nd rfl (Or.inr rfl) (pe_fn Gc hr (by omega) rfl passL (pa_cons (pv 0) (pa_cons (pv 1) pa_nil))))
  (pss_cons (ps_set (i := 3) sc_l_long.nd rfl (Or.inl rfl) (pe_ix ix_list (pe_lst (pa_cons pe_str (pa_cons pe_str (pa_cons pe_str pa_nil)))) (pe_op op_mod (pv 2) pe_int) (fun _ _ => rfl)))
  (pss_cons (ps_set (i := 4) sc_l_long.nd rfl (Or.inl rfl) (pe_lst pa_nil))
  (pss_cons (ps_for (passes_of rfl) (by rfl) (pi_range1 (by rfl) fx.b_range (pa_cons (pe_op op_add pe_int (pe_op op_mod (pe_op op_fdiv (pv 2) pe_int) pe_int)) pa_nil)) (pg_name (i := 5) sc_l_long.nd rfl (Or.inr rfl))
  (pss_cons (ps_setLc (i := 6) (own := [("_law_j", 7)]) (by rfl) sc_l_long.nd rfl rfl (sw_true rfl rfl rfl (by decide +kernel)) (pi_range1 (by rfl) fx.b_range (pa_cons (pe_op op_sub pe_int (pe_op op_mod (pv 5) pe_int)) pa_nil)) (blkOk_by (own := [("_law_j", 7)]) (N := N_l_long) (sc := defScope s_l_long) (by decide +kernel)) (fun _ _ _ _ _ => (pg_name (i := 7) sc_l_long.nd rfl (Or.inl rfl))) (fun _ _ _ _ _ => pts_nil) (fun _ _ _ _ _ => (pe_ix ix_str (pe_fn0 Gm hr (by omega) rfl passL) (pe_op op_mod (pe_op op_add (pe_op op_add (pe_op op_fdiv (pv 2) pe_int) (pv 5)) (pe_op op_mul (pv 7) (pe_op op_add pe_int (pe_op op_mod (pe_op op_fdiv (pv 2) pe_int) pe_int)))) pe_int) (fun _ _ => rfl))))
  (pss_one (ps_expr (pe_bm PySem.F.plainAttrs_list PySem.F.slot_list_append PySem.F.type_list_append mt_append (pv 4) (pa_cons (pe_lst (pa_cons (pe_join pe_str (pv 6)) pa_nil)) pa_nil))))))
  (pss_cons (ps_set (i := 8) sc_l_long.nd rfl (Or.inl rfl) (pe_tup (pa_cons (pe_tup (pa_cons pe_str (pa_cons pe_str pa_nil))) (pa_cons (pe_tup (pa_cons pe_str (pa_cons (pe_tup (pa_cons pe_str pa_nil)) (pa_cons (pv 3) pa_nil)))) (pa_cons (pe_tup (pa_cons pe_str (pa_cons pe_str pa_nil))) pa_nil)))))
  (pss_one (ps_ret (pe_tup (pa_cons (pe_tup (pa_cons (pe_tup (pa_cons pe_str (pa_cons pe_str (pa_cons (pe_tup (pa_cons pe_str pa_nil)) (pa_cons (pv 8) (pa_cons pe_str pa_nil)))))) (pa_cons (pe_tup (pa_cons pe_str (pa_cons pe_str pa_nil))) pa_nil))) (pa_cons (pe_lst (pa_cons (pv 4) pa_nil)) pa_nil)))))))))), go _ fun sp kk pre => (?_ : wS _ _ ⟨[some (.val (intsD cells)), some (.val (.adr sp)), none, none, none, none, none, none, none], some sp, kk⟩ _)⟩
  obtain ⟨hcl, hk0, hk1⟩ : cells.length ≤ 1000 ∧ 0 ≤ kk ∧ kk ≤ 100000000 := pre
  try dsimp only [L2.cxOf]
  refine wS_seq ?_
  repeat' walk_at "y"
  refine ⟨cells, sp, ⟨hcl, hk0, hk1⟩, rfl, rfl, fun dv k' hv => ?_⟩
  obtain ⟨rfl, n, rfl⟩ : k' = kk + 1 ∧ ∃ z : Nat, dv = .int z := hv
  repeat' walk_at "y"
  obtain ⟨j3, hj1, hj2⟩ := mod_nat (z := (n : Int)) (m := 3) (by omega) (by decide)
  have hv : ∃ v : Way, [D.str (Str.ofString "plain").1.toList, .str (Str.ofString "line").1.toList, .str (Str.ofString "quoted").1.toList][j3]? = some (.str (wayS v)) ∧ (v = .plain ∨ v = .line ∨ v = .quoted) := by
    rcases j3 with _ | _ | _ | j3
    · exact ⟨.plain, rfl, .inl rfl⟩
    · exact ⟨.line, rfl, .inr (.inl rfl)⟩
    · exact ⟨.quoted, rfl, .inr (.inr rfl)⟩
    · omega
  obtain ⟨v, hv1, hv2⟩ := hv
  refine wS_seq ?_
  repeat' walk_at "y"
  refine wR_ixL (n := j3) hj1 hv1 ?_
  refine wS_seq ?_
  repeat' walk_at "y"
  refine wS_seq ?_
  repeat' walk_at "y"
  obtain ⟨N, hN, hN43⟩ : ∃ N : Nat, 41 + (n : Int) / 3 % 3 = (N : Int) ∧ N ≤ 43 := ⟨41 + n / 3 % 3, by omega, by omega⟩
  rw [hN]
  refine ⟨by omega, by omega, fun i δ => ∃ (ts : List T) (o5 o6 o7 o8 : Option Cell), ts.length = i ∧ (∀ t ∈ ts, allSG t = true ∧ t.length ≤ 400) ∧ δ = ⟨[some (.val (intsD cells)), some (.val (.adr sp)), some (.val (.int n)), some (.val (.str (wayS v))), some (.own (fiR (lgR ts))), o5, o6, o7, o8], some sp, kk + 1⟩,
    ⟨[], none, none, none, none, rfl, by simp, rfl⟩, ?_, ?_⟩
  · rintro i dd δ hdd ⟨ts, o5, o6, o7, o8, hl, hts, rfl⟩
    obtain ⟨hi, rfl⟩ := rng_get' hdd
    have hlen : (fiR (lgR ts)).length = i := by rw [fiR_len]; simp [lgR, hl]
    repeat' walk_at "v"
    refine wE_lc (gw_name (by simp)) ?_
    repeat' walk_at "v"
    obtain ⟨M, hM, hM400⟩ : ∃ M : Nat, 400 - (i : Int) % 3 = (M : Int) ∧ M ≤ 400 := ⟨400 - i % 3, by omega, by omega⟩
    rw [hM]
    refine ⟨by omega, by omega, fun i1 acc k1 => k1 = kk + 1 ∧ ∃ t : T, acc = (t.map fun c => [c]).map D.str ∧ allSG t = true ∧ t.length = i1, ⟨rfl, [], rfl, rfl, rfl⟩, ?_, ?_⟩
    · rintro i1 d acc k1 hd ⟨rfl, t, rfl, ht, hl1⟩
      obtain ⟨hi1, rfl⟩ := rng_get' hd
      repeat' walk_at "v"
      refine ⟨(), trivial, rfl, fun d hd => ?_, fun _ => id⟩
      rw [hd]
      repeat' walk_at "v"
      · exact .inl ⟨by omega, by omega⟩
      obtain ⟨j, hj1, hj2⟩ := mod_int (z := (n : Int) / 9 + (i : Int) + (i1 : Int) * (1 + (n : Int) / 855 % 94)) (m := 95) (by decide)
      obtain ⟨c, hc, hcS⟩ := SG_get hj2
      refine wR_ixS (n := j) (by rw [SG_len]; decide) hj1 hc ?_
      refine ⟨by simp; omega, rfl, t ++ [c], by simp, allSG_app.mpr ⟨ht, allSG_cons.mpr ⟨hcS, rfl⟩⟩, by simp [hl1]⟩
    · rintro acc k1 ⟨rfl, t, rfl, ht, hl1⟩
      rw [List.length_map, List.length_range, Int.toNat_natCast] at hl1
      repeat' walk_at "v"
      rw [cps_nil]
      refine ⟨by rw [signs_len]; simp; omega, ?_⟩
      rw [join_signs]
      repeat' walk_at "v"
      refine ⟨by rw [hlen]; omega, ts ++ [t], some (.val (.int i)), some (.val (.lst ((t.map fun c => [c]).map D.str))), o7, o8, by simp [hl], ?_, ?_⟩
      · intro u hu
        rcases List.mem_append.mp hu with hu | hu
        · exact hts u hu
        · rw [List.mem_singleton.mp hu]; exact ⟨ht, by omega⟩
      · have e : fiR (lgR (ts ++ [t])) = fiR (lgR ts) ++ [.lst [.str t]] := by
          unfold lgR
          rw [List.map_append]
          show fiR (lgR ts ++ [[.val (.txt t)]]) = _
          rw [fiR_snoc]
          simp [fiL, fiD, vlD, lgR]
        rw [e]; rfl
  · rintro δ ⟨ts, o5, o6, o7, o8, hl, hts, rfl⟩
    rw [List.length_map, List.length_range, Int.toNat_natCast] at hl
    refine wS_freeze (i := 4) rfl ?_
    repeat' walk_at "v"
    refine ⟨rfl, lgL v, [.rounds (lgR ts)], ?_, lg_ok hv2 hts (by omega)⟩
    have e1 : FD (lgL v) = D.tup [D.tup [.str (cs "loop"), .str [97], pthD [[98]], .tup [D.tup [.str (cs "text"), .str [42]], .tup [.str (cs "place"), pthD [[97]], .str (wayS v)], .tup [.str (cs "text"), .str [10]]], .str []], .tup [.str (cs "text"), .str [35]]] := by
      show D.tup (ndL (lgL v)) = _
      simp [lgL, ndL, ndN]
    have e2 : fiL [.rounds (lgR ts)] = [.lst (fiR (lgR ts))] := by simp [fiL, fiD]
    rw [e1, e2]
    rfl
end

/-! M9: how great fills are as data; a turn that spoils. -/
mutual
theorem fiD_sz (N : Nat) (hN : 2 ≤ N) : ∀ (f : Fill), dF f + rF f ≤ N → szD N (fiD f)
  | .val v, h => by cases v <;> simp [fiD, vlD, szD]
  | .rounds rs, h => by
    have ih := fiR_sz N hN rs
    rw [dF, rF] at h
    rw [fiD, szD, fiR_map, List.length_map, ← fiR_map]
    exact ⟨by omega, ih (by omega)⟩
  | .side b fs, h => by
    have ih := fiL_sz N hN fs
    rw [dF, rF] at h
    obtain ⟨h1, h2⟩ := ih (by omega)
    rw [fiD, szD, szDs, szDs, szDs, szD, szD]
    exact ⟨by simp; omega, trivial, ⟨h1, h2⟩, trivial⟩
theorem fiL_sz (N : Nat) (hN : 2 ≤ N) : ∀ (fs : List Fill), dFs fs + rFs fs ≤ N → (fiL fs).length ≤ N ∧ szDs N (fiL fs)
  | [], h => by simp [fiL, szDs]
  | f :: fs, h => by
    have ih := fiD_sz N hN f
    have ihl := fiL_sz2 N hN fs
    rw [dFs, rFs] at h
    have hd := dF_pos f
    obtain ⟨h1, h2⟩ := ihl (by omega)
    rw [fiL, szDs, List.length_cons]
    exact ⟨by omega, ih (by omega), h2⟩
theorem fiL_sz2 (N : Nat) (hN : 2 ≤ N) : ∀ (fs : List Fill), dFs fs + rFs fs ≤ N → (fiL fs).length ≤ dFs fs ∧ szDs N (fiL fs)
  | [], h => by simp [fiL, szDs]
  | f :: fs, h => by
    have ih := fiD_sz N hN f
    have ihl := fiL_sz2 N hN fs
    rw [dFs, rFs] at h
    have hd := dF_pos f
    obtain ⟨h1, h2⟩ := ihl (by omega)
    rw [fiL, szDs, List.length_cons, dFs]
    exact ⟨by omega, ih (by omega), h2⟩
theorem fiR_sz (N : Nat) (hN : 2 ≤ N) : ∀ (rs : List (List Fill)), dR rs + rR rs ≤ N → szDs N (fiR rs)
  | [], h => by simp [fiR, szDs]
  | r :: rs, h => by
    have ih := fiL_sz N hN r
    have ihl := fiR_sz N hN rs
    rw [dR, rR] at h
    obtain ⟨h1, h2⟩ := ih (by omega)
    rw [fiR, szDs, szD]
    exact ⟨⟨h1, h2⟩, ihl (by omega)⟩
theorem dF_pos : ∀ f : Fill, 1 ≤ dF f
  | .val _ => by simp [dF]
  | .rounds _ => by simp [dF]
  | .side _ _ => by simp [dF]
end
mutual
theorem fiD_sp (N : Nat) : ∀ (f : Fill), szD N (fiD f) → spD N (fiD f) ∧ nlD (fiD f) ≤ dF f + rF f
  | .val v, h => by cases v <;> simp [fiD, vlD, spD, nlD]
  | .rounds rs, h => by
    have ih := fiR_sp N rs
    rw [fiD, szD] at h
    obtain ⟨h1, h2⟩ := ih h.2
    rw [fiD, spD, nlD, dF, rF]
    exact ⟨⟨h.1, h1⟩, by omega⟩
  | .side b fs, h => by
    have ih := fiL_sp N fs
    rw [fiD, szD, szDs, szDs, szDs, szD, szD] at h
    obtain ⟨h1, h2⟩ := ih h.2.2.1.2
    rw [fiD, spD, nlD, dF, rF, nlDs, nlDs, nlDs, nlD, spDs, spDs, spDs, spD, spD]
    refine ⟨⟨trivial, trivial, ⟨h.2.2.1.1, h1⟩, trivial⟩, ?_⟩
    have : nlD (.bl b) = 0 := by simp [nlD]
    omega
theorem fiL_sp (N : Nat) : ∀ (fs : List Fill), szDs N (fiL fs) → spDs N (fiL fs) ∧ nlDs (fiL fs) ≤ dFs fs + rFs fs
  | [], h => by simp [fiL, spDs, nlDs]
  | f :: fs, h => by
    have ih := fiD_sp N f
    have ihl := fiL_sp N fs
    rw [fiL, szDs] at h
    obtain ⟨h1, h2⟩ := ih h.1
    obtain ⟨h3, h4⟩ := ihl h.2
    rw [fiL, spDs, nlDs, dFs, rFs]
    exact ⟨⟨h1, h3⟩, by omega⟩
theorem fiR_sp (N : Nat) : ∀ (rs : List (List Fill)), szDs N (fiR rs) → spDs N (fiR rs) ∧ nlDs (fiR rs) ≤ rs.length + dR rs + rR rs
  | [], h => by simp [fiR, spDs, nlDs]
  | r :: rs, h => by
    have ih := fiL_sp N r
    have ihl := fiR_sp N rs
    rw [fiR, szDs, szD] at h
    obtain ⟨h1, h2⟩ := ih h.1.2
    obtain ⟨h3, h4⟩ := ihl h.2
    rw [fiR, spDs, nlDs, spD, nlD, dR, rR, List.length_cons]
    exact ⟨⟨⟨h.1.1, h1⟩, h3⟩, by omega⟩
end
structure FlD (fs : List Fill) : Prop where
  sz : szD 100000 (.lst (fiL fs))
  sp : spD 100000 (.lst (fiL fs))
  nl : nlD (.lst (fiL fs)) ≤ 1000000
  de : deD (.lst (fiL fs)) ≤ 47
  ok : okD (.lst (fiL fs))
theorem FlG.d {L : List Node} {fs : List Fill} (h : FlG L fs) : FlD fs := by
  obtain ⟨h1, h2⟩ := fiL_sz 100000 (by omega) fs h.cnt
  obtain ⟨h3, h4⟩ := fiL_sp 100000 fs h2
  obtain ⟨h5, h6⟩ := fiL_ok L fs h.ok
  have := h.cnt
  have := h.dpb
  refine ⟨by rw [szD]; exact ⟨h1, h2⟩, by rw [spD]; exact ⟨h1, h3⟩, by rw [nlD]; omega, by rw [deD]; omega, by rw [okD]; exact h5⟩
theorem FmG.fl {tidy : Bool} {L : List Node} {fs : List Fill} {j j' : Nat} (h : FmG tidy L) (hc : clL L ([], true) = true) (hD : Dr j L fs j') : FlG L fs := by
  have h1 := h.rbb
  have h2 := hD.cnt
  have h3 := hD.all
  have h4 := hD.rnd
  have h5 := hD.beh
  have h6 := pd_le_rbL L
  have h7 := spL_len 30 L fs h.tk hD.ok
  have h8 := h.tx
  have d1 : dFs fs ≤ 5350 := by
    by_cases q : 150 ≤ j
    · have := h5 q; omega
    · omega
  have r1 : rFs fs ≤ 6450 := by omega
  exact ⟨h.gd, hc, h.dpb, hD.ok, by omega, by omega⟩
/-! ### a turn: what is read is spoilt -/
section
variable {p : Pr} {δ : DSt} {te : TE} {tt : TT} {tr : TS} {Ψ : DEn} {G : Gh} {O : Nat → Addr} {σ : L2.St} {H H' : Hp}
theorem Pc.forget {sl : Sl} {i : Nat} {c : Addr} (h : Pc G O sl c) : Pc G O (sl.set i none) c := ⟨h.1, fun j l e => by
  by_cases hj : j = i
  · subst hj
    rw [List.getElem?_set, if_pos rfl] at e
    split at e <;> simp at e
  · rw [List.getElem?_set_ne (Ne.symm hj)] at e; exact h.2 j l e⟩
theorem At.forget (A : At p G O σ H δ) (i : Nat) (x : Option V) : At p G O (σ.set i x) H (δ.put i none) where
  len := by show (σ.set i _).length = (δ.sl.set i _).length; rw [List.length_set, List.length_set]; exact A.len
  sp := A.sp
  base := A.base
  fr := A.fr
  xl := A.xl
  spot := A.spot
  val := fun j e h => by
    have h' : (δ.sl.set i none)[j]? = some (some (.val e)) := h
    by_cases hj : j = i
    · subst hj
      rw [List.getElem?_set, if_pos rfl] at h'
      split at h' <;> simp at h'
    · rw [List.getElem?_set_ne (Ne.symm hj)] at h'
      obtain ⟨u, h1, h2⟩ := A.val j e h'
      exact ⟨u, by rw [List.getElem?_set_ne (Ne.symm hj)]; exact h1, h2.mono fun a q => q.forget⟩
  own := fun j l h => by
    have h' : (δ.sl.set i none)[j]? = some (some (.own l)) := h
    by_cases hj : j = i
    · subst hj
      rw [List.getElem?_set, if_pos rfl] at h'
      split at h' <;> simp at h'
    · rw [List.getElem?_set_ne (Ne.symm hj)] at h'
      obtain ⟨us, h1, h2, h3, h4⟩ := A.own j l h'
      exact ⟨us, by rw [List.getElem?_set_ne (Ne.symm hj)]; exact h1, h2, h3.mono fun a q => q.forget, h4⟩
  inj := fun j j' l l' h h' e => by
    have q : (δ.sl.set i none)[j]? = some (some (.own l)) := h
    have q' : (δ.sl.set i none)[j']? = some (some (.own l')) := h'
    have key : ∀ {j : Nat} {l : List D}, (δ.sl.set i none)[j]? = some (some (.own l)) → δ.sl[j]? = some (some (.own l)) := fun {j l} q => by
      by_cases hj : j = i
      · subst hj
        rw [List.getElem?_set, if_pos rfl] at q
        split at q <;> simp at q
      · rw [List.getElem?_set_ne (Ne.symm hj)] at q; exact q
    exact A.inj j j' l l' (key q) (key q') e
  ex := A.ex
/-- something new is read, looked at, spoilt -/
theorem wS_turn {E : XK} {i m : Nat} {l : List D} (hi : i < δ.sl.length)
    (h1 : ∀ G O σ H, At p G O σ H δ → ∀ Q : VK, (∀ v H', Same H H' → Rep p.K p.wc (.tup [.lst l]) (fun c => H c = none) H' v → Q v H') → te σ H Q)
    (h2 : wT p tt (δ.put i (some (.val (.tup [.lst l])))) fun b δ2 => b = false ∧ δ2.k = δ.k) (hs : spD 100000 (.lst l)) (hd : deD (.lst l) < m) (hn : nlD (.lst l) ≤ 1000000) (nx : Ψ.nx (δ.put i none)) :
    wS p (tSeq (tAsg te (gName i)) (tSeq (tIfS tt tr tNext) (tDrop (tCall (spSpoil p.K p.wc m) [] E (tCons (tOp (rIxT p.K) (tVar i) (tC (.int 0))) tNil))))) δ Ψ := fun G O σ H A F e => by
  refine h1 G O σ H A _ fun v H1 sm r => ?_
  have A1 : At p G O (σ.set i (some v)) H1 (δ.put i (some (.val (.tup [.lst l])))) := (A.same sm).put (r.mono fun c hc => A.free hc)
  refine h2 G O _ H1 A1 _ fun b k2 H2 hb kp A2 => ?_
  obtain ⟨hb, hk⟩ := hb
  have hk : k2 = δ.k := hk
  subst hb hk
  show (if false = true then _ else _)
  rw [if_neg (by simp)]
  have nsp : ∀ c, H c = none → G.s ≠ some c := fun c hc z => by
    have := (A.spot c z).1
    rw [hc] at this; cases this
  have r2 : Rep p.K p.wc (.tup [.lst l]) (fun c => H c = none) H2 v := Rep.to (fun a o n e => kp a o e fun q => by
    have := (A1.spot a q).1
    rw [this] at e
    exact n _ (Option.some.inj e).symm) (fun a xs q e => ⟨q, kp a _ e (nsp a q)⟩) _ _ r
  rw [Rep] at r2
  obtain ⟨b, zs, rfl, sb, rz⟩ := r2
  obtain ⟨z, rfl, rz2⟩ := rz.one
  have hσ : (σ.set i (some (.ref b)))[i]? = some (some (.ref b)) := by rw [List.getElem?_set, if_pos rfl, if_pos (by rw [A.len]; exact hi)]
  refine ⟨.ref b, hσ, b, [z], 0, z, rfl, rfl, sb, rfl, fun c => H c = none, H2, 0, l, z, rfl, Grow.refl, rz2, hs, hd, by omega, fun H3 g => ?_⟩
  have keep : Kp G.s H H3 := fun c o hc ns => g.keep (fun q => by rw [q] at hc; cases hc) (kp c o (sm c o hc) ns)
  have A3 : At p G O σ H3 (δ.k' δ.k) := A.next keep fun s hs => g.keep (fun q => nsp s q hs) (A2.spot s hs).1
  exact e.nx (δ.put i none) O _ H3 nx (A3.forget i _)
mutual
theorem noL_nd : ∀ x : Node, noL (ndN x) = true
  | .text t => by simp [ndN, noL, noLs]
  | .place p w => by simp [ndN, noL, noLs, noLs_str]
  | .loop nm p b btw => by
    have ih := noLs_nd b
    simp [ndN, noL, noLs, noLs_str, ih]
  | .choice p y n => by
    have ihy := noLs_nd y
    have ihn := noLs_nd n
    simp [ndN, noL, noLs, noLs_str, ihy, ihn]
theorem noLs_nd : ∀ xs : List Node, noLs (ndL xs) = true
  | [] => by simp [ndL, noLs]
  | x :: xs => by
    have ih := noL_nd x
    have ihl := noLs_nd xs
    simp [ndL, noLs, ih, ihl]
theorem noLs_str : ∀ ts : List T, noLs (ts.map D.str) = true
  | [] => by simp [noLs]
  | t :: ts => by simp [noLs, noL, noLs_str ts]
end
/-- what is read anew lies where nothing stood -/
theorem wF_read {E : XK} {n i j : Nat} {L : List Node} {t : T} {fs : List Fill} (hi : δ.sl[i]? = some (some (.val (FD L)))) (hj : δ.sl[j]? = some (some (.val (.str t)))) (hp : (cLRd n).pre (L, t)) (hr : readBack L t = some fs) :
    ∀ G O σ H, At p G O σ H δ → ∀ Q : VK, (∀ v H', Same H H' → Rep p.K p.wc (.tup [.lst (fiL fs)]) (fun c => H c = none) H' v → Q v H') → (tCall (spA p.K p.wc p.nf (cLRd n)) [] E (tCons (tVar i) (tCons (tVar j) tNil))) σ H Q := fun G O σ H A Q f => by
  obtain ⟨v1, h1, r1⟩ := A.val i _ hi
  obtain ⟨v2, h2, r2⟩ := A.val j _ hj
  have r1' := noL_to (FD L) _ (fun c => H c = none) v1 (by rw [noL]; exact noLs_nd L) r1
  have r2' := noL_to (.str t) _ (fun c => H c = none) v2 (by rw [noL] <;> simp) r2
  refine ⟨v1, h1, v2, h2, ?_⟩
  refine ⟨(L, t), fun c => H c = none, [FD L, .str t], fun a ha => ha, .cons r1' (.cons r2' .nil), ⟨rfl, hp⟩, fun d v H' hd s r => ?_, fun m dd H' hm => (hm : False).elim⟩
  rcases (hd : (∃ fs, readBack L t = some fs ∧ d = .tup [.lst (fiL fs)]) ∨ (readBack L t = none ∧ ∃ m, inT t m ∧ d = .int m)) with ⟨gs, hg, rfl⟩ | ⟨hg, _⟩
  · rw [hr] at hg; cases hg
    exact f v H' s r
  · rw [hr] at hg; cases hg
end

/-! W31: the law. -/
abbrev s_law : Stmt := top 84
abbrev N_law : List Str := ["_law_script", "_law_cells", "_law_spot", "_law_more", "_law_form_here", "_law_names_here", "_law_fill_here", "_law_handed", "_law_text_here", "_law_turn", "_law_found", "_law_other"]
theorem sc_law : FnScope N_law ["_law_script"] (defScope s_law) := ⟨rfl, rfl, rfl, by decide +kernel, rfl, by decide +kernel, by decide +kernel⟩
theorem sqL_keep {K : PySem.W.Frag} {H H' : Hp} {a : Addr} {vs : List V} (h : SqL K H a vs) (hk : Same H H') : SqL K H' a vs := by
  rcases h with (h | ⟨o, h⟩) | h
  · exact .inl (.inl (hk _ _ h))
  · exact .inl (.inr ⟨o, hk _ _ h⟩)
  · exact .inr h
theorem ints_rep {K : PySem.W.Frag} {wc : Way → Addr} {P : Addr → Prop} {H : Hp} : ∀ cs : List Int, RepL K wc (cs.map D.int) P H (cs.map V.int)
  | [] => .nil
  | c :: cs => .cons (by rw [Rep]) (ints_rep cs)
def spCA (K : PySem.W.Frag) : Sp := fun vs H Q _ => ∃ (a : Addr) (ns : List Int) (k : Nat), vs = [.ref a, .int k] ∧ SqL K H a (ns.map V.int) ∧ ∀ z : Int, Q (.int z) H
def spLaw (K : PySem.W.Frag) : Sp := fun vs H Q _ => ∃ (a : Addr) (ns : List Int), vs = [.ref a] ∧ SqL K H a (ns.map V.int) ∧ ns.length ≤ 63 ∧ ∀ v H', v = .bl true → Q v H'
section
variable {P : Program} {w : World} {K : PySem.W.Frag} {mg : Str → Option Value} {base : Heap} {f : Addr} {fd : FuncData} {wc : Way → Addr} {nf : Addr} {k : Nat}
theorem ok_l_cell_at2 (fx : Fx K mg wc nf) (F : FnP K "_law_cell_at" "_law_cell_at" s_l_cell_at f fd) : FnOk P w K mg base (L2.CX P w) (k + 1) f fd ["_law_script", "_law_k"] (spCA K) := by
  refine F.ok sc_l_cell_at (fun vs H Q E h => ?_) fun cdv A outer s H vs Q E hr h => ?_
  · obtain ⟨a, ns, k, rfl, _⟩ := h; rfl
  obtain ⟨a, ns, i, rfl, hS, hQ⟩ := h
  refine ⟨_, (pss_cons (ps_if (pt_cmpR op_lt (pv 1) (pe_callB call_len_seq (by rfl) fx.b_len bb_len (pa_cons (pv 0) pa_nil)) (nomark _))
  (pss_one (ps_ret (pe_ix ix_list (pv 0) (pv 1) (fun _ _ => rfl))))
  pss_nil)
  (pss_one (ps_ret pe_int))), ?_⟩
  try dsimp only [L2.cxOf]
  refine ⟨.int i, rfl, .ref a, rfl, a, _, rfl, .inl hS, i, _, rfl, rfl, _, rfl, ?_⟩
  rw [List.length_map]
  by_cases hi : (i : Int) < (ns.length : Int)
  · rw [decide_eq_true hi]
    have hg : (ns.map V.int)[i]? = some (.int (ns[i]'(by omega))) := by rw [List.getElem?_map, List.getElem?_eq_getElem (by omega)]; rfl
    exact ⟨.ref a, rfl, .int i, rfl, a, _, i, _, rfl, rfl, hS, atI_nat hg, hQ _⟩
  · rw [decide_eq_false hi]
    exact hQ 0
theorem ok_law {n : Nat} (hn : 24 ≤ n) (fx : Fx K mg wc nf) (F : FnP K "law" "law" s_law f fd) (Ga : Fn P w K mg base "_law_cell_at" ["_law_script", "_law_k"] k (spCA K)) (Gf : Fn P w K mg base "_law_form" ["_law_cells", "_law_spot", "_law_first", "_law_tidy"] k (spB K wc cForm))
    (Gu : Fn P w K mg base "unclear" ["form"] k (spA K wc nf (cUnclear n))) (Gi : Fn P w K mg base "_law_fill" ["_law_cells", "_law_spot", "_law_nodes_here"] k (spB K wc (cFil n))) (Gl : Fn P w K mg base "_law_long" ["_law_cells", "_law_spot"] k (spB K wc cLong))
    (Gc : Fn P w K mg base "_law_copied" ["_law_thing"] k (spA K wc nf (cCop 60))) (Gs : Fn P w K mg base "spelt" ["form", "fill"] k (spA K wc nf (cSp n))) (Gr : Fn P w K mg base "_law_read" ["_law_form_here", "_law_text_here"] k (spA K wc nf (cLRd n)))
    (Gm : Fn P w K mg base "_law_same" ["_law_found", "_law_due"] k (spA K wc nf (cSame 60))) (Go : Fn P w K mg base "_law_spoilt" ["_law_fill_here"] k (spSpoil K wc 60)) (Gb : Fn P w K mg base "_law_text_bent" ["_law_text_here", "_law_n"] k (spA K wc nf cBent))
    (Ge : Fn P w K mg base "_law_cell" ["_law_cells", "_law_spot"] k (spB K wc cCell)) (Gd : Fn P w K mg base "_law_sound" ["_law_nodes_here", "_law_fill_here"] k (spA K wc nf (cSou n))) (Gw : Fn P w K mg base "_law_whole" ["_law_found"] k (spA K wc nf cIsWhole)) :
    FnOk P w K mg base (L2.CX P w) (k + 1) f fd ["_law_script"] (spLaw K) := by
  refine F.ok sc_law (fun vs H Q E h => ?_) fun cdv A outer s H vs Q E hr h => ?_
  · obtain ⟨a, ns, rfl, _⟩ := h; rfl
  obtain ⟨a, ns, rfl, hS, hl, hQ⟩ := h
  refine ⟨_, (pss_cons (ps_set (i := 1) sc_law.nd rfl (Or.inl rfl) (pe_slice sl_list (pv 0) (po_some pe_int) (po_some pe_int)))
  (pss_cons (ps_set (i := 2) sc_law.nd rfl (Or.inl rfl) (pe_lst (pa_cons pe_int (pa_cons pe_int pa_nil))))
  (pss_cons (ps_set (i := 3) sc_law.nd rfl (Or.inl rfl) (pe_fn Ga hr (by omega) rfl passL (pa_cons (pv 0) (pa_cons pe_int pa_nil))))
  (pss_cons (ps_asg (pe_fn Gf hr (by omega) rfl passL (pa_cons (pv 1) (pa_cons (pv 2) (pa_cons (pe_fn Ga hr (by omega) rfl passL (pa_cons (pv 0) (pa_cons pe_int pa_nil))) (pa_cons (pe_cmpR op_gt (pe_op op_mod (pv 3) pe_int) pe_int (nomark _)) pa_nil))))) (pg_tup (by rfl) (pgs_cons (pg_name (i := 4) sc_law.nd rfl (Or.inl rfl)) (pgs_cons (pg_name (i := 5) sc_law.nd rfl (Or.inl rfl)) pgs_nil))))
  (pss_cons (ps_if (pt_cmpR op_notN (pe_fn Gu hr (by omega) rfl passL (pa_cons (pv 4) pa_nil)) pe_non (nomark _))
  (pss_one (ps_ret (pe_cmpR op_eq (pe_op op_mod (pv 3) pe_int) pe_int (nomark _))))
  pss_nil)
  (pss_cons (ps_set (i := 6) sc_law.nd rfl (Or.inl rfl) (pe_fn Gi hr (by omega) rfl passL (pa_cons (pv 1) (pa_cons (pv 2) (pa_cons (pv 4) pa_nil)))))
  (pss_cons (ps_if (pt_cmpR op_eq (pe_op op_mod (pe_op op_fdiv (pv 3) pe_int) pe_int) pe_int (nomark _))
  (pss_one (ps_asg (pe_fn Gl hr (by omega) rfl passL (pa_cons (pv 1) (pa_cons (pv 2) pa_nil))) (pg_tup (by rfl) (pgs_cons (pg_name (i := 4) sc_law.nd rfl (Or.inl rfl)) (pgs_cons (pg_name (i := 6) sc_law.nd rfl (Or.inl rfl)) pgs_nil)))))
  pss_nil)
  (pss_cons (ps_set (i := 7) sc_law.nd rfl (Or.inl rfl) (pe_fn Gc hr (by omega) rfl passL (pa_cons (pv 6) pa_nil)))
  (pss_cons (ps_set (i := 8) sc_law.nd rfl (Or.inl rfl) (pe_fn Gs hr (by omega) rfl passL (pa_cons (pv 4) (pa_cons (pv 7) pa_nil))))
  (pss_cons (ps_if (PW.pt (pw_or (pt_cmpR (op_neD (hu64 hr)) (pv 7) (pv 6) (nomark _)) (pw_or1 (pt_not (pt_val (pe_callB call_isi (by rfl) fx.b_isinstance bb_isinstance (pa_cons (pv 8) (pa_cons (pe_bltn (v := .ty "str") rfl fx.b_str bb_str rfl) pa_nil))))))))
  (pss_one (ps_ret pe_bl))
  pss_nil)
  (pss_cons (ps_for (passes_of rfl) (by rfl) (pi_range1 (by rfl) fx.b_range (pa_cons pe_int pa_nil)) (pg_name (i := 9) sc_law.nd rfl (Or.inl rfl))
  (pss_cons (ps_set (i := 10) sc_law.nd rfl (Or.inl rfl) (pe_fn Gr hr (by omega) rfl passL (pa_cons (pv 4) (pa_cons (pv 8) pa_nil))))
  (pss_cons (ps_if (pt_not (pt_val (pe_fn Gm hr (by omega) rfl passL (pa_cons (pv 10) (pa_cons (pe_tup (pa_cons (pv 6) pa_nil)) pa_nil)))))
  (pss_one (ps_ret pe_bl))
  pss_nil)
  (pss_one (ps_expr (pe_fn Go hr (by omega) rfl passL (pa_cons (pe_ix ix_tup (pv 10) pe_int (fun _ _ => rfl)) pa_nil)))))))
  (pss_cons (ps_for (passes_of rfl) (by rfl) (pi_range1 (by rfl) fx.b_range (pa_cons pe_int pa_nil)) (pg_name (i := 9) sc_law.nd rfl (Or.inl rfl))
  (pss_cons (ps_set (i := 11) sc_law.nd rfl (Or.inl rfl) (pe_fn Gb hr (by omega) rfl passL (pa_cons (pv 8) (pa_cons (pe_fn Ge hr (by omega) rfl passL (pa_cons (pv 1) (pa_cons (pv 2) pa_nil))) pa_nil))))
  (pss_cons (ps_set (i := 10) sc_law.nd rfl (Or.inl rfl) (pe_fn Gr hr (by omega) rfl passL (pa_cons (pv 4) (pa_cons (pv 11) pa_nil))))
  (pss_one (ps_if (pt_val (pe_callB call_isi (by rfl) fx.b_isinstance bb_isinstance (pa_cons (pv 10) (pa_cons (pe_bltn (v := .ty "tuple") rfl fx.b_tuple bb_tuple rfl) pa_nil))))
  (pss_one (ps_if (PW.pt (pw_or (pt_not (pt_val (pe_fn Gd hr (by omega) rfl passL (pa_cons (pv 4) (pa_cons (pe_ix ix_tup (pv 10) pe_int (fun _ _ => rfl)) pa_nil))))) (pw_or1 (pt_cmpR op_ne (pe_fn Gs hr (by omega) rfl passL (pa_cons (pv 4) (pa_cons (pe_ix ix_tup (pv 10) pe_int (fun _ _ => rfl)) pa_nil))) (pv 11) (nomark _)))))
  (pss_one (ps_ret pe_bl))
  pss_nil))
  (pss_one (ps_if (PW.pt (pw_or (pt_not (pt_val (pe_fn Gw hr (by omega) rfl passL (pa_cons (pv 10) pa_nil)))) (pw_or1 (pt_not (pt_chain op_le op_le pe_int (pv 10) (pe_callB call_len_str (by rfl) fx.b_len bb_len (pa_cons (pv 11) pa_nil)))))))
  (pss_one (ps_ret pe_bl))
  pss_nil)))))))
  (pss_one (ps_ret pe_bl)))))))))))))), ?_⟩
  try dsimp only [L2.cxOf]
  refine ⟨.ref a, rfl, 2, rfl, 34, rfl, a, _, rfl, hS, fun p np => ?_⟩
  have s1 : Same H (upd H p (.lst (cutV (ns.map V.int) (some 2) (some 34)))) := fun b o z => by rw [upd_ne (ne_of_none z np)]; exact z
  refine ⟨by show 2 ≤ sizeLine; decide, fun q nq => ?_⟩
  have s2 : Same (upd H p (.lst (cutV (ns.map V.int) (some 2) (some 34)))) (upd (upd H p (.lst (cutV (ns.map V.int) (some 2) (some 34)))) q (.lst [.int 0, .int 24])) := fun b o z => by rw [upd_ne (ne_of_none z nq)]; exact z
  have hqp : q ≠ p := fun z => by rw [z, upd_same] at nq; cases nq
  generalize hH2 : upd (upd H p (.lst (cutV (ns.map V.int) (some 2) (some 34)))) q (.lst [.int 0, .int 24]) = H2
  rw [hH2] at s2
  have hS2 : SqL K H2 a (ns.map V.int) := sqL_keep (sqL_keep hS s1) s2
  have hp2 : H2 p = some (.lst (cutV (ns.map V.int) (some 2) (some 34))) := s2 _ _ upd_same
  have hq2 : H2 q = some (.lst [.int 0, .int 24]) := by rw [← hH2]; exact upd_same
  refine ⟨.ref a, rfl, a, ns, 1, rfl, hS2, fun z => ?_⟩
  refine ⟨.ref p, rfl, .ref q, rfl, .ref a, rfl, a, ns, 0, rfl, hS2, fun z0 => ?_⟩
  refine ⟨.int z, rfl, z, 4, rfl, rfl, (by decide : (0 : Int) < 4), _, 0, rfl, rfl, ?_⟩
  generalize htid : decide ((0 : Int) < z % 4) = tid
  have hcv : cutV (ns.map V.int) (some 2) (some 34) = (cutT ns (some 2) (some 34)).map V.int := by
    unfold cutV cutT
    rw [List.length_map, List.map_take, List.map_drop]
  have hcl : (cutT ns (some 2) (some 34)).length ≤ 1000 := by
    unfold cutT
    rw [List.length_take, List.length_drop]; omega
  rw [hcv] at hp2
  generalize hcells : cutT ns (some 2) (some 34) = cells at hp2 hcl
  have rc : ∀ (U : Addr → Prop) (H' : Hp), U p → H' p = some (.lst (cells.map V.int)) → Rep K wc (intsD cells) U H' (.ref p) := fun U H' hu e => by
    rw [Rep]; exact ⟨p, _, rfl, hu, e, ints_rep cells⟩
  refine ⟨(cells, z0, tid), fun c => c ≠ q, _, q, 0, fun c hc => fun zz => (by rw [zz, hq2] at hc; cases hc), fun h => h rfl, hq2, .cons (rc _ _ (Ne.symm hqp) hp2) (.cons (by rw [Rep]) (.cons (by rw [Rep]) (.cons (by rw [Rep]; exact congrArg V.bl htid) .nil))), ⟨rfl, ⟨hcl, by decide, by decide⟩⟩, fun d k' v H3 hpost kp e3 r3 => ?_⟩
  obtain ⟨hk1, hk2, L, nm, rfl, hL⟩ : (0 : Int) ≤ k' ∧ k' ≤ 0 + 4000 ∧ ∃ L nm, d = .tup [FD L, strsD nm] ∧ FmG tid L := hpost
  have A3 : At ⟨K, wc, nf, E, fun _ => False⟩ ⟨fun _ => none, fun c => c ≠ q, fun _ => False, some q⟩ (fun _ => 0) ((((L2.start N_law [V.ref a]).set 1 (some (.ref p))).set 2 (some (.ref q))).set 3 (some (.int z))) H3
      ⟨[none, some (.val (intsD cells)), some (.val (.adr q)), some (.val (.int z)), none, none, none, none, none, none, none, none], some q, k'⟩ := {
    len := rfl
    sp := rfl
    base := fun a o e => by cases e
    fr := fun c _ hs _ zz => hs (by rw [zz])
    xl := fun _ h => h.elim
    spot := fun s hs => by cases hs; exact ⟨e3, fun h => h rfl⟩
    val := fun i d hd => by
      rcases i with _ | _ | _ | _ | i
      · cases hd
      · cases hd
        exact ⟨.ref p, rfl, rc _ _ ⟨Ne.symm hqp, fun j l e => by have := List.mem_of_getElem? e; simp at this⟩ (kp _ _ hp2 fun e => hqp (Option.some.inj e))⟩
      · cases hd; exact ⟨.ref q, rfl, by rw [Rep]⟩
      · cases hd; exact ⟨.int z, rfl, by rw [Rep]⟩
      · have := List.mem_of_getElem? (show [none, none, none, none, none, none, none, none][i]? = some (some (Cell.val d)) from hd)
        simp at this
    own := fun i l e => by have := List.mem_of_getElem? e; simp at this
    inj := fun i j l l' e => by have := List.mem_of_getElem? e; simp at this
    ex := fun n hn => hn.elim }
  have r3' := r3.mono (P' := Pc ⟨fun _ => none, fun c => c ≠ q, fun _ => False, some q⟩ (fun _ => 0) [none, some (.val (intsD cells)), some (.val (.adr q)), some (.val (.int z)), none, none, none, none, none, none, none, none]) fun c hc => ⟨hc, fun j l e => by have := List.mem_of_getElem? e; simp at this⟩
  refine (wG_tup (p := ⟨K, wc, nf, E, fun _ => False⟩) (is := [4, 5]) (Θ := fun δ' => δ' = ⟨[none, some (.val (intsD cells)), some (.val (.adr q)), some (.val (.int z)), some (.val (FD L)), some (.val (strsD nm)), none, none, none, none, none, none], some q, k'⟩) rfl rfl rfl) _ _ _ H3 v A3 r3' _ fun δ' σ' hδ A' _ => ?_
  subst hδ
  dsimp only
  refine (?_ : wS ⟨K, wc, nf, E, fun _ => False⟩ _ _ { nx := fun _ => False, rt := fun d _ => d = .bl true }) _ _ _ H3 A' _ ⟨fun _ _ _ _ z => z.elim, fun d δ O σ v H e A r => by subst e; rw [Rep] at r; exact hQ v H r, fun _ _ _ _ z => z.elim, fun _ _ _ _ z => z.elim⟩
  clear A3 r3' r3 A'
  clear s1 s2 hS2 hp2 hq2 rc kp e3 hS hcv np nq hH2 hcells
  refine wS_seq ?_
  repeat' walk_at "v"
  refine ⟨L, ⟨hL.gd, by show dpL L < n; have := hL.dpb; omega⟩, rfl, fun d hd => ?_, fun _ => id⟩
  have hd : unP (clL L ([], true)) (2 * n) d := hd
  repeat' walk_at "v"
  refine wR_notX ?_
  rw [hd.non]
  repeat' walk_at "v"
  cases hcl2 : clL L ([], true) with
  | false =>
    repeat' walk_at "v"
    have ht : tid = false := by
      cases h : tid with
      | false => rfl
      | true =>
        have := (TD_clear ([], true) (hL.td h)).1
        rw [this] at hcl2; cases hcl2
    rw [ht] at htid
    have := of_decide_eq_false htid
    show D.bl _ = D.bl true
    rw [decide_eq_true (show z % 4 = 0 by omega)]
  | true =>
    repeat' walk_at "v"
    obtain ⟨j0, rfl⟩ : ∃ j0 : Nat, k' = j0 := ⟨k'.toNat, by omega⟩
    have hpr := pd_le_rbL L
    have hrb := hL.rbb
    have hdp := hL.dpb
    refine ⟨(cells, L), q, ⟨hcl, ⟨j0, rfl, ⟨fun _ => by show 150 + rbL L ≤ 90000000; omega, fun _ => by show j0 + pdL L ≤ 90000000; omega, by omega⟩⟩, hL.gd, by show dpL L < n; omega⟩, rfl, rfl, fun dv k2 hv => ?_⟩
    obtain ⟨j1, j2, fs, e1, rfl, rfl, hDr⟩ : ∃ (j1 j2 : Nat) (fs : List Fill), (j0 : Int) = j1 ∧ k2 = j2 ∧ dv = .lst (fiL fs) ∧ Dr j1 L fs j2 := hv
    obtain rfl : j1 = j0 := by omega
    have hFl := hL.fl hcl2 hDr
    have hj2 := hDr.all
    refine wS_cut (I := fun δ => ∃ (L : List Node) (fs : List Fill) (o5 : Option Cell) (kk : Int), FlG L fs ∧ 0 ≤ kk ∧ kk ≤ 20000 ∧ δ = ⟨[none, some (.val (intsD cells)), some (.val (.adr q)), some (.val (.int z)), some (.val (FD L)), o5, some (.val (.lst (fiL fs))), none, none, none, none, none], some q, kk⟩) ?_ ?_
    · repeat' walk_at "v"
      refine ite_b (fun hb => ?_) fun hb => ?_
      · repeat' walk_at "v"
        refine ⟨cells, q, ⟨hcl, (by show (0 : Int) ≤ (j2 : Int); omega), (by show (j2 : Int) ≤ 100000000; omega)⟩, rfl, rfl, fun dv k2 hv => ?_⟩
        obtain ⟨rfl, L', fs', rfl, hF'⟩ : k2 = (j2 : Int) + 1 ∧ ∃ L fs, dv = .tup [FD L, .lst (fiL fs)] ∧ FlG L fs := hv
        refine wG_tup (is := [4, 6]) rfl rfl ?_
        exact ⟨L', fs', _, (j2 : Int) + 1, hF', by omega, by omega, rfl⟩
      · repeat' walk_at "v"
        exact ⟨L, fs, _, (j2 : Int), hFl, by omega, by omega, rfl⟩
    · clear hFl hDr hdp hrb hpr hcl2 hd
      rintro δ ⟨L, fs, o5, kk, hF, hkk0, hkk1, rfl⟩
      have hD := hF.d
      have hgd := hF.gd
      have hnv := clL_nv _ _ hF.cl
      have hdp : dpL L < n := by have := hF.dpb; omega
      have hva := gdL_va L hgd
      have hSG : allSG (spL L fs) = true := spL_SG L fs hva hF.ok
      have hlen := hF.len
      have hde : deD (.lst (fiL fs)) < 60 := by have := hD.de; omega
      have hrb := read_complete hva hF.cl hF.ok
      refine wS_seq ?_
      repeat' walk_at "y"
      refine ⟨.lst (fiL fs), ⟨hD.sz, hde⟩, rfl, fun dv hdv => ?_, fun _ => id⟩
      rw [hdv]
      repeat' walk_at "y"
      refine wS_seq ?_
      repeat' walk_at "y"
      refine ⟨(L, fs), ⟨⟨hgd, hnv, hdp⟩, hF.ok, by show (spL L fs).length ≤ 16000000; omega⟩, rfl, fun dv hdv => ?_, fun _ => id⟩
      rw [hdv]
      repeat' walk_at "y"
      refine wS_seq ?_
      refine wS_if ?_
      repeat' walk_at "y"
      refine wR_neD hD.ok hD.ok (by have := hD.de; omega) (by have := hD.de; omega) ?_
      rw [eqv_same hD.ok]
      repeat' walk_at "v"
      refine ⟨by decide, by decide, fun i δ => ∃ o9 : Option Cell, δ = ⟨[none, some (.val (intsD cells)), some (.val (.adr q)), some (.val (.int z)), some (.val (FD L)), o5, some (.val (.lst (fiL fs))), some (.val (.lst (fiL fs))), some (.val (.str (spL L fs))), o9, none, none], some q, kk⟩, ⟨none, rfl⟩, ?_, ?_⟩
      · rintro i dd δ hdd ⟨o9, rfl⟩
        refine wG_name ?_
        refine wS_turn (l := fiL fs) (m := 60) (by simp [DSt.put]) (wF_read (n := n) (L := L) (t := spL L fs) rfl rfl ⟨⟨hgd, hnv, hdp⟩, hSG, by show (spL L fs).length ≤ 16000000; omega⟩ hrb) ?_ hD.sp hde hD.nl ?_
        · repeat' walk_at "v"
          refine ⟨.tup [.lst (fiL fs)], ⟨by rw [szD, szDs, szDs]; exact ⟨by simp, hD.sz, trivial⟩, ?_⟩, rfl, fun dv hdv => ?_, fun _ => id⟩
          · have e : deD (.tup [.lst (fiL fs)]) = deD (.lst (fiL fs)) + 1 := by simp [deD, deDs]
            rw [e]; have := hD.de; omega
          · rw [hdv]
            exact ⟨true, rfl, rfl, rfl⟩
        · exact ⟨_, rfl⟩
      · rintro δ ⟨o9, rfl⟩
        repeat' walk_at "v"
        refine ⟨by decide, by decide, fun i δ => ∃ (o9 o10 o11 : Option Cell) (k1 : Int), 0 ≤ k1 ∧ k1 ≤ 20000 + i ∧ δ = ⟨[none, some (.val (intsD cells)), some (.val (.adr q)), some (.val (.int z)), some (.val (FD L)), o5, some (.val (.lst (fiL fs))), some (.val (.lst (fiL fs))), some (.val (.str (spL L fs))), o9, o10, o11], some q, k1⟩, ⟨o9, none, none, kk, hkk0, by omega, rfl⟩, ?_, ?_⟩
        · rintro i dd δ hdd ⟨o9, o10, o11, k1, h10, h11, rfl⟩
          have hi : i < 4 := by
            have := (List.getElem?_eq_some_iff.mp hdd).1
            simpa using this
          refine wG_name ?_
          refine wS_seq ?_
          repeat' walk_at "y"
          refine ⟨cells, q, ⟨hcl, (by show 0 ≤ k1; omega), (by show k1 ≤ 100000000; omega)⟩, rfl, rfl, fun dv k2 hv => ?_⟩
          obtain ⟨rfl, x, rfl⟩ : k2 = k1 + 1 ∧ ∃ z : Nat, dv = .int z := hv
          repeat' walk_at "y"
          refine ⟨(spL L fs, x), ⟨hSG, hlen⟩, rfl, fun dv hdv => ?_, fun _ => id⟩
          obtain ⟨u, rfl, huS, hul⟩ : ∃ t, dv = .str t ∧ allSG t = true ∧ t.length ≤ 16000000 := hdv
          repeat' walk_at "y"
          refine wS_seq ?_
          repeat' walk_at "y"
          refine ⟨(L, u), ⟨⟨hgd, hnv, hdp⟩, huS, hul⟩, rfl, fun dv hdv => ?_, fun _ => id⟩
          rcases (hdv : (∃ gs, readBack L u = some gs ∧ dv = .tup [.lst (fiL gs)]) ∨ (readBack L u = none ∧ ∃ m, inT u m ∧ dv = .int m)) with ⟨gs, hg, rfl⟩ | ⟨_, m, ⟨hm0, hm1⟩, rfl⟩
          · obtain ⟨hg1, hg2⟩ := read_sound hg
            repeat' walk_at "v"
            refine ⟨(L, gs), ⟨⟨hgd, hnv, hdp⟩, hg1, by show (spL L gs).length ≤ 16000000; rw [hg2]; exact hul⟩, rfl, fun dv hdv => ?_, fun _ => id⟩
            rw [hdv]
            repeat' walk_at "v"
            refine ⟨(L, gs), ⟨⟨hgd, hnv, hdp⟩, hg1, by show (spL L gs).length ≤ 16000000; rw [hg2]; exact hul⟩, rfl, fun dv hdv => ?_, fun _ => id⟩
            rw [hdv]
            repeat' walk_at "v"
            rw [show (!decide (spL L gs = u)) = false from by rw [hg2]; simp]
            repeat' walk_at "v"
            exact ⟨_, _, _, k1 + 1, by omega, by omega, rfl⟩
          · repeat' walk_at "v"
            refine ⟨m, trivial, rfl, fun dv hdv => ?_, fun _ => id⟩
            rw [hdv]
            repeat' walk_at "v"
            rw [decide_eq_true hm0]
            repeat' walk_at "v"
            · omega
            rw [decide_eq_true hm1]
            repeat' walk_at "v"
            exact ⟨_, _, _, k1 + 1, by omega, by omega, rfl⟩
        · rintro δ ⟨o9, o10, o11, k1, _, _, rfl⟩
          repeat' walk_at "v"
end

end K16
end

section
set_option maxHeartbeats 4000000
set_option autoImplicit false
/-! H2: each def by its name; what the head gives. -/
namespace K16
open PySem PySem.Spec PyProof.Rows L2 SX
open C8 (clsBody)
def Df (K : PySem.W.Frag) (mg : Str → Option Value) (x : Str) (st : Stmt) : Prop := ∃ f fd, mg x = some (.ref f) ∧ FnP K x x st f fd
def Dm (K : PySem.W.Frag) (C : Addr) (m q : Str) (st : Stmt) : Prop := ∃ f fd, Meth K C m f ∧ FnP K m q st f fd
theorem b_is_text {K : PySem.W.Frag} {f : Addr} {fd : FuncData} (F : FnP K "is_text" "is_text" s_is_text f fd) : Binds K fd ["thing", "most"] [] := FunD.bindsN (ps := ["thing", "most"]) F fun _ _ _ _ _ _ us hl => match us, hl with | [_, _], _ => rfl
theorem b_without {K : PySem.W.Frag} {f : Addr} {fd : FuncData} (F : FnP K "without" "without" s_without f fd) : Binds K fd ["some"] [] := FunD.bindsN (ps := ["some"]) F fun _ _ _ _ _ _ us hl => match us, hl with | [_], _ => rfl
theorem b_is_whole {K : PySem.W.Frag} {f : Addr} {fd : FuncData} (F : FnP K "is_whole" "is_whole" s_is_whole f fd) : Binds K fd ["thing"] [] := FunD.bindsN (ps := ["thing"]) F fun _ _ _ _ _ _ us hl => match us, hl with | [_], _ => rfl
theorem b_is_number {K : PySem.W.Frag} {f : Addr} {fd : FuncData} (F : FnP K "is_number" "is_number" s_is_number f fd) : Binds K fd ["thing"] [] := FunD.bindsN (ps := ["thing"]) F fun _ _ _ _ _ _ us hl => match us, hl with | [_], _ => rfl
theorem b_unmarked {K : PySem.W.Frag} {f : Addr} {fd : FuncData} (F : FnP K "unmarked" "unmarked" s_unmarked f fd) : Binds K fd ["text", "mark", "told"] [] := FunD.bindsN (ps := ["text", "mark", "told"]) F fun _ _ _ _ _ _ us hl => match us, hl with | [_, _, _], _ => rfl
theorem b_way_of {K : PySem.W.Frag} {f : Addr} {fd : FuncData} (F : FnP K "way_of" "way_of" s_way_of f fd) : Binds K fd ["word"] [] := FunD.bindsN (ps := ["word"]) F fun _ _ _ _ _ _ us hl => match us, hl with | [_], _ => rfl
theorem b_united {K : PySem.W.Frag} {f : Addr} {fd : FuncData} (F : FnP K "united" "united" s_united f fd) : Binds K fd ["one", "other"] [] := FunD.bindsN (ps := ["one", "other"]) F fun _ _ _ _ _ _ us hl => match us, hl with | [_, _], _ => rfl
theorem b_loop_begins {K : PySem.W.Frag} {f : Addr} {fd : FuncData} (F : FnP K "loop_begins" "loop_begins" s_loop_begins f fd) : Binds K fd ["node"] [] := FunD.bindsN (ps := ["node"]) F fun _ _ _ _ _ _ us hl => match us, hl with | [_], _ => rfl
theorem b_node_begins {K : PySem.W.Frag} {f : Addr} {fd : FuncData} (F : FnP K "node_begins" "node_begins" s_node_begins f fd) : Binds K fd ["node"] [] := FunD.bindsN (ps := ["node"]) F fun _ _ _ _ _ _ us hl => match us, hl with | [_], _ => rfl
theorem b_begins {K : PySem.W.Frag} {f : Addr} {fd : FuncData} (F : FnP K "begins" "begins" s_begins f fd) : Binds K fd ["nodes"] [] := FunD.bindsN (ps := ["nodes"]) F fun _ _ _ _ _ _ us hl => match us, hl with | [_], _ => rfl
theorem b_side_begins {K : PySem.W.Frag} {f : Addr} {fd : FuncData} (F : FnP K "side_begins" "side_begins" s_side_begins f fd) : Binds K fd ["nodes", "follow"] [] := FunD.bindsN (ps := ["nodes", "follow"]) F fun _ _ _ _ _ _ us hl => match us, hl with | [_, _], _ => rfl
theorem b_follows {K : PySem.W.Frag} {f : Addr} {fd : FuncData} (F : FnP K "follows" "follows" s_follows f fd) : Binds K fd ["nodes", "at", "follow"] [] := FunD.bindsN (ps := ["nodes", "at", "follow"]) F fun _ _ _ _ _ _ us hl => match us, hl with | [_, _, _], _ => rfl
theorem b_again_begins {K : PySem.W.Frag} {f : Addr} {fd : FuncData} (F : FnP K "again_begins" "again_begins" s_again_begins f fd) : Binds K fd ["node"] [] := FunD.bindsN (ps := ["node"]) F fun _ _ _ _ _ _ us hl => match us, hl with | [_], _ => rfl
theorem b_within_loop {K : PySem.W.Frag} {f : Addr} {fd : FuncData} (F : FnP K "within_loop" "within_loop" s_within_loop f fd) : Binds K fd ["node", "follow"] [] := FunD.bindsN (ps := ["node", "follow"]) F fun _ _ _ _ _ _ us hl => match us, hl with | [_, _], _ => rfl
theorem b_have_common {K : PySem.W.Frag} {f : Addr} {fd : FuncData} (F : FnP K "have_common" "have_common" s_have_common f fd) : Binds K fd ["one", "other"] [] := FunD.bindsN (ps := ["one", "other"]) F fun _ _ _ _ _ _ us hl => match us, hl with | [_, _], _ => rfl
theorem b_unclear_loop {K : PySem.W.Frag} {f : Addr} {fd : FuncData} (F : FnP K "unclear_loop" "unclear_loop" s_unclear_loop f fd) : Binds K fd ["node", "follow"] [] := FunD.bindsN (ps := ["node", "follow"]) F fun _ _ _ _ _ _ us hl => match us, hl with | [_, _], _ => rfl
theorem b_unclear_choice {K : PySem.W.Frag} {f : Addr} {fd : FuncData} (F : FnP K "unclear_choice" "unclear_choice" s_unclear_choice f fd) : Binds K fd ["node", "follow"] [] := FunD.bindsN (ps := ["node", "follow"]) F fun _ _ _ _ _ _ us hl => match us, hl with | [_, _], _ => rfl
theorem b_unclear_node {K : PySem.W.Frag} {f : Addr} {fd : FuncData} (F : FnP K "unclear_node" "unclear_node" s_unclear_node f fd) : Binds K fd ["node", "follow"] [] := FunD.bindsN (ps := ["node", "follow"]) F fun _ _ _ _ _ _ us hl => match us, hl with | [_, _], _ => rfl
theorem b_unclear_nodes {K : PySem.W.Frag} {f : Addr} {fd : FuncData} (F : FnP K "unclear_nodes" "unclear_nodes" s_unclear_nodes f fd) : Binds K fd ["nodes", "follow"] [] := FunD.bindsN (ps := ["nodes", "follow"]) F fun _ _ _ _ _ _ us hl => match us, hl with | [_, _], _ => rfl
theorem b_unclear {K : PySem.W.Frag} {f : Addr} {fd : FuncData} (F : FnP K "unclear" "unclear" s_unclear f fd) : Binds K fd ["form"] [] := FunD.bindsN (ps := ["form"]) F fun _ _ _ _ _ _ us hl => match us, hl with | [_], _ => rfl
theorem b_side_readied {K : PySem.W.Frag} {f : Addr} {fd : FuncData} (F : FnP K "side_readied" "side_readied" s_side_readied f fd) : Binds K fd ["truth", "nodes", "follow"] [] := FunD.bindsN (ps := ["truth", "nodes", "follow"]) F fun _ _ _ _ _ _ us hl => match us, hl with | [_, _, _], _ => rfl
theorem b_node_readied {K : PySem.W.Frag} {f : Addr} {fd : FuncData} (F : FnP K "node_readied" "node_readied" s_node_readied f fd) : Binds K fd ["node", "follow"] [] := FunD.bindsN (ps := ["node", "follow"]) F fun _ _ _ _ _ _ us hl => match us, hl with | [_, _], _ => rfl
theorem b_readied {K : PySem.W.Frag} {f : Addr} {fd : FuncData} (F : FnP K "readied" "readied" s_readied f fd) : Binds K fd ["nodes", "follow"] [] := FunD.bindsN (ps := ["nodes", "follow"]) F fun _ _ _ _ _ _ us hl => match us, hl with | [_, _], _ => rfl
theorem b_text_read {K : PySem.W.Frag} {f : Addr} {fd : FuncData} (F : FnP K "text_read" "text_read" s_text_read f fd) : Binds K fd ["wanted", "text", "at"] [] := FunD.bindsN (ps := ["wanted", "text", "at"]) F fun _ _ _ _ _ _ us hl => match us, hl with | [_, _, _], _ => rfl
theorem b_loop_read {K : PySem.W.Frag} {f : Addr} {fd : FuncData} (F : FnP K "loop_read" "loop_read" s_loop_read f fd) : Binds K fd ["node", "text", "at"] [] := FunD.bindsN (ps := ["node", "text", "at"]) F fun _ _ _ _ _ _ us hl => match us, hl with | [_, _, _], _ => rfl
theorem b_choice_read {K : PySem.W.Frag} {f : Addr} {fd : FuncData} (F : FnP K "choice_read" "choice_read" s_choice_read f fd) : Binds K fd ["node", "text", "at"] [] := FunD.bindsN (ps := ["node", "text", "at"]) F fun _ _ _ _ _ _ us hl => match us, hl with | [_, _, _], _ => rfl
theorem b_node_read {K : PySem.W.Frag} {f : Addr} {fd : FuncData} (F : FnP K "node_read" "node_read" s_node_read f fd) : Binds K fd ["node", "text", "at"] [] := FunD.bindsN (ps := ["node", "text", "at"]) F fun _ _ _ _ _ _ us hl => match us, hl with | [_, _, _], _ => rfl
theorem b_nodes_read {K : PySem.W.Frag} {f : Addr} {fd : FuncData} (F : FnP K "nodes_read" "nodes_read" s_nodes_read f fd) : Binds K fd ["nodes", "text", "at"] [] := FunD.bindsN (ps := ["nodes", "text", "at"]) F fun _ _ _ _ _ _ us hl => match us, hl with | [_, _, _], _ => rfl
theorem b_read_back {K : PySem.W.Frag} {f : Addr} {fd : FuncData} (F : FnP K "read_back" "read_back" s_read_back f fd) : Binds K fd ["form", "text"] [] := FunD.bindsN (ps := ["form", "text"]) F fun _ _ _ _ _ _ us hl => match us, hl with | [_, _], _ => rfl
theorem b_node_spelt {K : PySem.W.Frag} {f : Addr} {fd : FuncData} (F : FnP K "node_spelt" "node_spelt" s_node_spelt f fd) : Binds K fd ["node", "one"] [] := FunD.bindsN (ps := ["node", "one"]) F fun _ _ _ _ _ _ us hl => match us, hl with | [_, _], _ => rfl
theorem b_spelt {K : PySem.W.Frag} {f : Addr} {fd : FuncData} (F : FnP K "spelt" "spelt" s_spelt f fd) : Binds K fd ["form", "fill"] [] := FunD.bindsN (ps := ["form", "fill"]) F fun _ _ _ _ _ _ us hl => match us, hl with | [_, _], _ => rfl
theorem b_l_cell_at {K : PySem.W.Frag} {f : Addr} {fd : FuncData} (F : FnP K "_law_cell_at" "_law_cell_at" s_l_cell_at f fd) : Binds K fd ["_law_script", "_law_k"] [] := FunD.bindsN (ps := ["_law_script", "_law_k"]) F fun _ _ _ _ _ _ us hl => match us, hl with | [_, _], _ => rfl
theorem b_l_cell {K : PySem.W.Frag} {f : Addr} {fd : FuncData} (F : FnP K "_law_cell" "_law_cell" s_l_cell f fd) : Binds K fd ["_law_cells", "_law_spot"] [] := FunD.bindsN (ps := ["_law_cells", "_law_spot"]) F fun _ _ _ _ _ _ us hl => match us, hl with | [_, _], _ => rfl
theorem b_l_marks {K : PySem.W.Frag} {f : Addr} {fd : FuncData} (F : FnP K "_law_marks" "_law_marks" s_l_marks f fd) : Binds K fd [] [] := FunD.bindsN (ps := []) F fun _ _ _ _ _ _ us hl => match us, hl with | [], _ => rfl
theorem b_l_names {K : PySem.W.Frag} {f : Addr} {fd : FuncData} (F : FnP K "_law_names" "_law_names" s_l_names f fd) : Binds K fd ["_law_n"] [] := FunD.bindsN (ps := ["_law_n"]) F fun _ _ _ _ _ _ us hl => match us, hl with | [_], _ => rfl
theorem b_l_text {K : PySem.W.Frag} {f : Addr} {fd : FuncData} (F : FnP K "_law_text" "_law_text" s_l_text f fd) : Binds K fd ["_law_n"] [] := FunD.bindsN (ps := ["_law_n"]) F fun _ _ _ _ _ _ us hl => match us, hl with | [_], _ => rfl
theorem b_l_row {K : PySem.W.Frag} {f : Addr} {fd : FuncData} (F : FnP K "_law_row" "_law_row" s_l_row f fd) : Binds K fd ["_law_path", "_law_names_here"] [] := FunD.bindsN (ps := ["_law_path", "_law_names_here"]) F fun _ _ _ _ _ _ us hl => match us, hl with | [_, _], _ => rfl
theorem b_l_scope {K : PySem.W.Frag} {f : Addr} {fd : FuncData} (F : FnP K "_law_scope" "_law_scope" s_l_scope f fd) : Binds K fd ["_law_names_here"] [] := FunD.bindsN (ps := ["_law_names_here"]) F fun _ _ _ _ _ _ us hl => match us, hl with | [_], _ => rfl
theorem b_l_one {K : PySem.W.Frag} {f : Addr} {fd : FuncData} (F : FnP K "_law_one" "_law_one" s_l_one f fd) : Binds K fd ["_law_nodes_here"] [] := FunD.bindsN (ps := ["_law_nodes_here"]) F fun _ _ _ _ _ _ us hl => match us, hl with | [_], _ => rfl
theorem b_l_way {K : PySem.W.Frag} {f : Addr} {fd : FuncData} (F : FnP K "_law_way" "_law_way" s_l_way f fd) : Binds K fd ["_law_kind", "_law_n"] [] := FunD.bindsN (ps := ["_law_kind", "_law_n"]) F fun _ _ _ _ _ _ us hl => match us, hl with | [_, _], _ => rfl
theorem b_l_place {K : PySem.W.Frag} {f : Addr} {fd : FuncData} (F : FnP K "_law_place" "_law_place" s_l_place f fd) : Binds K fd ["_law_path", "_law_kind", "_law_tidy", "_law_n"] [] := FunD.bindsN (ps := ["_law_path", "_law_kind", "_law_tidy", "_law_n"]) F fun _ _ _ _ _ _ us hl => match us, hl with | [_, _, _, _], _ => rfl
theorem b_l_loop {K : PySem.W.Frag} {f : Addr} {fd : FuncData} (F : FnP K "_law_loop" "_law_loop" s_l_loop f fd) : Binds K fd ["_law_cells", "_law_spot", "_law_at", "_law_path", "_law_kind", "_law_deep"] [] := FunD.bindsN (ps := ["_law_cells", "_law_spot", "_law_at", "_law_path", "_law_kind", "_law_deep"]) F fun _ _ _ _ _ _ us hl => match us, hl with | [_, _, _, _, _, _], _ => rfl
theorem b_l_choice {K : PySem.W.Frag} {f : Addr} {fd : FuncData} (F : FnP K "_law_choice" "_law_choice" s_l_choice f fd) : Binds K fd ["_law_cells", "_law_spot", "_law_at", "_law_path", "_law_deep"] [] := FunD.bindsN (ps := ["_law_cells", "_law_spot", "_law_at", "_law_path", "_law_deep"]) F fun _ _ _ _ _ _ us hl => match us, hl with | [_, _, _, _, _], _ => rfl
theorem b_l_nodes {K : PySem.W.Frag} {f : Addr} {fd : FuncData} (F : FnP K "_law_nodes" "_law_nodes" s_l_nodes f fd) : Binds K fd ["_law_cells", "_law_spot", "_law_at", "_law_deep"] [] := FunD.bindsN (ps := ["_law_cells", "_law_spot", "_law_at", "_law_deep"]) F fun _ _ _ _ _ _ us hl => match us, hl with | [_, _, _, _], _ => rfl
theorem b_l_form {K : PySem.W.Frag} {f : Addr} {fd : FuncData} (F : FnP K "_law_form" "_law_form" s_l_form f fd) : Binds K fd ["_law_cells", "_law_spot", "_law_first", "_law_tidy"] [] := FunD.bindsN (ps := ["_law_cells", "_law_spot", "_law_first", "_law_tidy"]) F fun _ _ _ _ _ _ us hl => match us, hl with | [_, _, _, _], _ => rfl
theorem b_l_figure {K : PySem.W.Frag} {f : Addr} {fd : FuncData} (F : FnP K "_law_figure" "_law_figure" s_l_figure f fd) : Binds K fd ["_law_n"] [] := FunD.bindsN (ps := ["_law_n"]) F fun _ _ _ _ _ _ us hl => match us, hl with | [_], _ => rfl
theorem b_l_value {K : PySem.W.Frag} {f : Addr} {fd : FuncData} (F : FnP K "_law_value" "_law_value" s_l_value f fd) : Binds K fd ["_law_kind", "_law_n", "_law_odd"] [] := FunD.bindsN (ps := ["_law_kind", "_law_n", "_law_odd"]) F fun _ _ _ _ _ _ us hl => match us, hl with | [_, _, _], _ => rfl
theorem b_l_same {K : PySem.W.Frag} {f : Addr} {fd : FuncData} (F : FnP K "_law_same" "_law_same" s_l_same f fd) : Binds K fd ["_law_found", "_law_due"] [] := FunD.bindsN (ps := ["_law_found", "_law_due"]) F fun _ _ _ _ _ _ us hl => match us, hl with | [_, _], _ => rfl
theorem b_l_copied {K : PySem.W.Frag} {f : Addr} {fd : FuncData} (F : FnP K "_law_copied" "_law_copied" s_l_copied f fd) : Binds K fd ["_law_thing"] [] := FunD.bindsN (ps := ["_law_thing"]) F fun _ _ _ _ _ _ us hl => match us, hl with | [_], _ => rfl
theorem b_l_coded {K : PySem.W.Frag} {f : Addr} {fd : FuncData} (F : FnP K "_law_coded" "_law_coded" s_l_coded f fd) : Binds K fd ["_law_way_here", "_law_value_here"] [] := FunD.bindsN (ps := ["_law_way_here", "_law_value_here"]) F fun _ _ _ _ _ _ us hl => match us, hl with | [_, _], _ => rfl
theorem b_l_spoilt {K : PySem.W.Frag} {f : Addr} {fd : FuncData} (F : FnP K "_law_spoilt" "_law_spoilt" s_l_spoilt f fd) : Binds K fd ["_law_fill_here"] [] := FunD.bindsN (ps := ["_law_fill_here"]) F fun _ _ _ _ _ _ us hl => match us, hl with | [_], _ => rfl
theorem b_l_fill {K : PySem.W.Frag} {f : Addr} {fd : FuncData} (F : FnP K "_law_fill" "_law_fill" s_l_fill f fd) : Binds K fd ["_law_cells", "_law_spot", "_law_nodes_here"] [] := FunD.bindsN (ps := ["_law_cells", "_law_spot", "_law_nodes_here"]) F fun _ _ _ _ _ _ us hl => match us, hl with | [_, _, _], _ => rfl
theorem b_l_text_bent {K : PySem.W.Frag} {f : Addr} {fd : FuncData} (F : FnP K "_law_text_bent" "_law_text_bent" s_l_text_bent f fd) : Binds K fd ["_law_text_here", "_law_n"] [] := FunD.bindsN (ps := ["_law_text_here", "_law_n"]) F fun _ _ _ _ _ _ us hl => match us, hl with | [_, _], _ => rfl
theorem b_l_sound {K : PySem.W.Frag} {f : Addr} {fd : FuncData} (F : FnP K "_law_sound" "_law_sound" s_l_sound f fd) : Binds K fd ["_law_nodes_here", "_law_fill_here"] [] := FunD.bindsN (ps := ["_law_nodes_here", "_law_fill_here"]) F fun _ _ _ _ _ _ us hl => match us, hl with | [_, _], _ => rfl
theorem b_l_whole {K : PySem.W.Frag} {f : Addr} {fd : FuncData} (F : FnP K "_law_whole" "_law_whole" s_l_whole f fd) : Binds K fd ["_law_found"] [] := FunD.bindsN (ps := ["_law_found"]) F fun _ _ _ _ _ _ us hl => match us, hl with | [_], _ => rfl
theorem b_l_long {K : PySem.W.Frag} {f : Addr} {fd : FuncData} (F : FnP K "_law_long" "_law_long" s_l_long f fd) : Binds K fd ["_law_cells", "_law_spot"] [] := FunD.bindsN (ps := ["_law_cells", "_law_spot"]) F fun _ _ _ _ _ _ us hl => match us, hl with | [_, _], _ => rfl
theorem b_l_read {K : PySem.W.Frag} {f : Addr} {fd : FuncData} (F : FnP K "_law_read" "_law_read" s_l_read f fd) : Binds K fd ["_law_form_here", "_law_text_here"] [] := FunD.bindsN (ps := ["_law_form_here", "_law_text_here"]) F fun _ _ _ _ _ _ us hl => match us, hl with | [_, _], _ => rfl
theorem b_law {K : PySem.W.Frag} {f : Addr} {fd : FuncData} (F : FnP K "law" "law" s_law f fd) : Binds K fd ["_law_script"] [] := FunD.bindsN (ps := ["_law_script"]) F fun _ _ _ _ _ _ us hl => match us, hl with | [_], _ => rfl
theorem b_Word_fits {K : PySem.W.Frag} {f : Addr} {fd : FuncData} (F : FnP K "fits" "Word.fits" s_Word_fits f fd) : Binds K fd ["self", "value"] [] := FunD.bindsN (ps := ["self", "value"]) F fun _ _ _ _ _ _ us hl => match us, hl with | [_, _], _ => rfl
theorem b_Way_marked {K : PySem.W.Frag} {f : Addr} {fd : FuncData} (F : FnP K "marked" "Way.marked" s_Way_marked f fd) : Binds K fd ["self", "value"] [] := FunD.bindsN (ps := ["self", "value"]) F fun _ _ _ _ _ _ us hl => match us, hl with | [_, _], _ => rfl
theorem b_Way_coded {K : PySem.W.Frag} {f : Addr} {fd : FuncData} (F : FnP K "coded" "Way.coded" s_Way_coded f fd) : Binds K fd ["self", "value"] [] := FunD.bindsN (ps := ["self", "value"]) F fun _ _ _ _ _ _ us hl => match us, hl with | [_, _], _ => rfl
theorem b_Way_behind {K : PySem.W.Frag} {f : Addr} {fd : FuncData} (F : FnP K "behind" "Way.behind" s_Way_behind f fd) : Binds K fd ["self", "text", "at"] [] := FunD.bindsN (ps := ["self", "text", "at"]) F fun _ _ _ _ _ _ us hl => match us, hl with | [_, _, _], _ => rfl
theorem b_Way_meant {K : PySem.W.Frag} {f : Addr} {fd : FuncData} (F : FnP K "meant" "Way.meant" s_Way_meant f fd) : Binds K fd ["self", "stretch"] [] := FunD.bindsN (ps := ["self", "stretch"]) F fun _ _ _ _ _ _ us hl => match us, hl with | [_, _], _ => rfl
theorem b_Way_read {K : PySem.W.Frag} {f : Addr} {fd : FuncData} (F : FnP K "read" "Way.read" s_Way_read f fd) : Binds K fd ["self", "text", "at"] [] := FunD.bindsN (ps := ["self", "text", "at"]) F fun _ _ _ _ _ _ us hl => match us, hl with | [_, _, _], _ => rfl
theorem b_Way_begins {K : PySem.W.Frag} {f : Addr} {fd : FuncData} (F : FnP K "begins" "Way.begins" s_Way_begins f fd) : Binds K fd ["self"] [] := FunD.bindsN (ps := ["self"]) F fun _ _ _ _ _ _ us hl => match us, hl with | [_], _ => rfl
theorem b_Word_ends {K : PySem.W.Frag} {f : Addr} {fd : FuncData} (F : FnP K "ends" "Word.ends" s_Word_ends f fd) : Binds K fd ["self"] [] := FunD.bindsN (ps := ["self"]) F fun _ _ _ _ _ _ us hl => match us, hl with | [_], _ => rfl
theorem b_Way_is_void {K : PySem.W.Frag} {f : Addr} {fd : FuncData} (F : FnP K "is_void" "Way.is_void" s_Way_is_void f fd) : Binds K fd ["self"] [] := FunD.bindsN (ps := ["self"]) F fun _ _ _ _ _ _ us hl => match us, hl with | [_], _ => rfl
theorem b_Number_fits {K : PySem.W.Frag} {f : Addr} {fd : FuncData} (F : FnP K "fits" "Number.fits" s_Number_fits f fd) : Binds K fd ["self", "value"] [] := FunD.bindsN (ps := ["self", "value"]) F fun _ _ _ _ _ _ us hl => match us, hl with | [_, _], _ => rfl
theorem b_Number_marked {K : PySem.W.Frag} {f : Addr} {fd : FuncData} (F : FnP K "marked" "Number.marked" s_Number_marked f fd) : Binds K fd ["self", "value"] [] := FunD.bindsN (ps := ["self", "value"]) F fun _ _ _ _ _ _ us hl => match us, hl with | [_, _], _ => rfl
theorem b_Number_behind {K : PySem.W.Frag} {f : Addr} {fd : FuncData} (F : FnP K "behind" "Number.behind" s_Number_behind f fd) : Binds K fd ["self", "text", "at"] [] := FunD.bindsN (ps := ["self", "text", "at"]) F fun _ _ _ _ _ _ us hl => match us, hl with | [_, _, _], _ => rfl
theorem b_Number_meant {K : PySem.W.Frag} {f : Addr} {fd : FuncData} (F : FnP K "meant" "Number.meant" s_Number_meant f fd) : Binds K fd ["self", "stretch"] [] := FunD.bindsN (ps := ["self", "stretch"]) F fun _ _ _ _ _ _ us hl => match us, hl with | [_, _], _ => rfl
theorem b_Number_begins {K : PySem.W.Frag} {f : Addr} {fd : FuncData} (F : FnP K "begins" "Number.begins" s_Number_begins f fd) : Binds K fd ["self"] [] := FunD.bindsN (ps := ["self"]) F fun _ _ _ _ _ _ us hl => match us, hl with | [_], _ => rfl
theorem b_Number_ends {K : PySem.W.Frag} {f : Addr} {fd : FuncData} (F : FnP K "ends" "Number.ends" s_Number_ends f fd) : Binds K fd ["self"] [] := FunD.bindsN (ps := ["self"]) F fun _ _ _ _ _ _ us hl => match us, hl with | [_], _ => rfl
theorem b_Way_fits {K : PySem.W.Frag} {f : Addr} {fd : FuncData} (F : FnP K "fits" "Way.fits" s_Way_fits f fd) : Binds K fd ["self", "value"] [] := FunD.bindsN (ps := ["self", "value"]) F fun _ _ _ _ _ _ us hl => match us, hl with | [_, _], _ => rfl
theorem b_Quoted_marked {K : PySem.W.Frag} {f : Addr} {fd : FuncData} (F : FnP K "marked" "Quoted.marked" s_Quoted_marked f fd) : Binds K fd ["self", "value"] [] := FunD.bindsN (ps := ["self", "value"]) F fun _ _ _ _ _ _ us hl => match us, hl with | [_, _], _ => rfl
theorem b_Quoted_behind {K : PySem.W.Frag} {f : Addr} {fd : FuncData} (F : FnP K "behind" "Quoted.behind" s_Quoted_behind f fd) : Binds K fd ["self", "text", "at"] [] := FunD.bindsN (ps := ["self", "text", "at"]) F fun _ _ _ _ _ _ us hl => match us, hl with | [_, _, _], _ => rfl
theorem b_Quoted_meant {K : PySem.W.Frag} {f : Addr} {fd : FuncData} (F : FnP K "meant" "Quoted.meant" s_Quoted_meant f fd) : Binds K fd ["self", "stretch"] [] := FunD.bindsN (ps := ["self", "stretch"]) F fun _ _ _ _ _ _ us hl => match us, hl with | [_, _], _ => rfl
theorem b_Quoted_begins {K : PySem.W.Frag} {f : Addr} {fd : FuncData} (F : FnP K "begins" "Quoted.begins" s_Quoted_begins f fd) : Binds K fd ["self"] [] := FunD.bindsN (ps := ["self"]) F fun _ _ _ _ _ _ us hl => match us, hl with | [_], _ => rfl
theorem b_Quoted_ends {K : PySem.W.Frag} {f : Addr} {fd : FuncData} (F : FnP K "ends" "Quoted.ends" s_Quoted_ends f fd) : Binds K fd ["self"] [] := FunD.bindsN (ps := ["self"]) F fun _ _ _ _ _ _ us hl => match us, hl with | [_], _ => rfl
theorem b_Plain_marked {K : PySem.W.Frag} {f : Addr} {fd : FuncData} (F : FnP K "marked" "Plain.marked" s_Plain_marked f fd) : Binds K fd ["self", "value"] [] := FunD.bindsN (ps := ["self", "value"]) F fun _ _ _ _ _ _ us hl => match us, hl with | [_, _], _ => rfl
theorem b_Plain_meant {K : PySem.W.Frag} {f : Addr} {fd : FuncData} (F : FnP K "meant" "Plain.meant" s_Plain_meant f fd) : Binds K fd ["self", "stretch"] [] := FunD.bindsN (ps := ["self", "stretch"]) F fun _ _ _ _ _ _ us hl => match us, hl with | [_, _], _ => rfl
theorem b_Plain_ends {K : PySem.W.Frag} {f : Addr} {fd : FuncData} (F : FnP K "ends" "Plain.ends" s_Plain_ends f fd) : Binds K fd ["self"] [] := FunD.bindsN (ps := ["self"]) F fun _ _ _ _ _ _ us hl => match us, hl with | [_], _ => rfl
theorem b_Plain_is_void {K : PySem.W.Frag} {f : Addr} {fd : FuncData} (F : FnP K "is_void" "Plain.is_void" s_Plain_is_void f fd) : Binds K fd ["self"] [] := FunD.bindsN (ps := ["self"]) F fun _ _ _ _ _ _ us hl => match us, hl with | [_], _ => rfl
theorem b_Line_marked {K : PySem.W.Frag} {f : Addr} {fd : FuncData} (F : FnP K "marked" "Line.marked" s_Line_marked f fd) : Binds K fd ["self", "value"] [] := FunD.bindsN (ps := ["self", "value"]) F fun _ _ _ _ _ _ us hl => match us, hl with | [_, _], _ => rfl
theorem b_Line_meant {K : PySem.W.Frag} {f : Addr} {fd : FuncData} (F : FnP K "meant" "Line.meant" s_Line_meant f fd) : Binds K fd ["self", "stretch"] [] := FunD.bindsN (ps := ["self", "stretch"]) F fun _ _ _ _ _ _ us hl => match us, hl with | [_, _], _ => rfl
theorem b_Line_ends {K : PySem.W.Frag} {f : Addr} {fd : FuncData} (F : FnP K "ends" "Line.ends" s_Line_ends f fd) : Binds K fd ["self"] [] := FunD.bindsN (ps := ["self"]) F fun _ _ _ _ _ _ us hl => match us, hl with | [_], _ => rfl
theorem b_Line_is_void {K : PySem.W.Frag} {f : Addr} {fd : FuncData} (F : FnP K "is_void" "Line.is_void" s_Line_is_void f fd) : Binds K fd ["self"] [] := FunD.bindsN (ps := ["self"]) F fun _ _ _ _ _ _ us hl => match us, hl with | [_], _ => rfl
theorem b_NoFill___init__ {K : PySem.W.Frag} {f : Addr} {fd : FuncData} (F : FnP K "__init__" "NoFill.__init__" s_NoFill___init__ f fd) : Binds K fd ["self", "at"] [] := FunD.bindsN (ps := ["self", "at"]) F fun _ _ _ _ _ _ us hl => match us, hl with | [_, _], _ => rfl
structure Ds (K : PySem.W.Frag) (mg : Str → Option Value) (wc : Way → Addr) (nf : Addr) : Prop where
  fx : Fx K mg wc nf
  xf : XfC K nf
  exm : PySem.W.exmOne K (.ref nf) (.ref nf) = some true
  ini : ∃ f fd, PySem.W.findIn K (.ref nf) "__init__" = some (some (.ref f)) ∧ PySem.W.typeIn K (.ref f) = some (.type "function") ∧ FnP K "__init__" "NoFill.__init__" s_NoFill___init__ f fd
  g_is_text : Df K mg "is_text" s_is_text
  g_without : Df K mg "without" s_without
  g_is_whole : Df K mg "is_whole" s_is_whole
  g_is_number : Df K mg "is_number" s_is_number
  g_unmarked : Df K mg "unmarked" s_unmarked
  g_way_of : Df K mg "way_of" s_way_of
  g_united : Df K mg "united" s_united
  g_loop_begins : Df K mg "loop_begins" s_loop_begins
  g_node_begins : Df K mg "node_begins" s_node_begins
  g_begins : Df K mg "begins" s_begins
  g_side_begins : Df K mg "side_begins" s_side_begins
  g_follows : Df K mg "follows" s_follows
  g_again_begins : Df K mg "again_begins" s_again_begins
  g_within_loop : Df K mg "within_loop" s_within_loop
  g_have_common : Df K mg "have_common" s_have_common
  g_unclear_loop : Df K mg "unclear_loop" s_unclear_loop
  g_unclear_choice : Df K mg "unclear_choice" s_unclear_choice
  g_unclear_node : Df K mg "unclear_node" s_unclear_node
  g_unclear_nodes : Df K mg "unclear_nodes" s_unclear_nodes
  g_unclear : Df K mg "unclear" s_unclear
  g_side_readied : Df K mg "side_readied" s_side_readied
  g_node_readied : Df K mg "node_readied" s_node_readied
  g_readied : Df K mg "readied" s_readied
  g_text_read : Df K mg "text_read" s_text_read
  g_loop_read : Df K mg "loop_read" s_loop_read
  g_choice_read : Df K mg "choice_read" s_choice_read
  g_node_read : Df K mg "node_read" s_node_read
  g_nodes_read : Df K mg "nodes_read" s_nodes_read
  g_read_back : Df K mg "read_back" s_read_back
  g_node_spelt : Df K mg "node_spelt" s_node_spelt
  g_spelt : Df K mg "spelt" s_spelt
  g_l_cell_at : Df K mg "_law_cell_at" s_l_cell_at
  g_l_cell : Df K mg "_law_cell" s_l_cell
  g_l_marks : Df K mg "_law_marks" s_l_marks
  g_l_names : Df K mg "_law_names" s_l_names
  g_l_text : Df K mg "_law_text" s_l_text
  g_l_row : Df K mg "_law_row" s_l_row
  g_l_scope : Df K mg "_law_scope" s_l_scope
  g_l_one : Df K mg "_law_one" s_l_one
  g_l_way : Df K mg "_law_way" s_l_way
  g_l_place : Df K mg "_law_place" s_l_place
  g_l_loop : Df K mg "_law_loop" s_l_loop
  g_l_choice : Df K mg "_law_choice" s_l_choice
  g_l_nodes : Df K mg "_law_nodes" s_l_nodes
  g_l_form : Df K mg "_law_form" s_l_form
  g_l_figure : Df K mg "_law_figure" s_l_figure
  g_l_value : Df K mg "_law_value" s_l_value
  g_l_same : Df K mg "_law_same" s_l_same
  g_l_copied : Df K mg "_law_copied" s_l_copied
  g_l_coded : Df K mg "_law_coded" s_l_coded
  g_l_spoilt : Df K mg "_law_spoilt" s_l_spoilt
  g_l_fill : Df K mg "_law_fill" s_l_fill
  g_l_text_bent : Df K mg "_law_text_bent" s_l_text_bent
  g_l_sound : Df K mg "_law_sound" s_l_sound
  g_l_whole : Df K mg "_law_whole" s_l_whole
  g_l_long : Df K mg "_law_long" s_l_long
  g_l_read : Df K mg "_law_read" s_l_read
  g_law : Df K mg "law" s_law
  m_Word_fits : Dm K (wc .word) "fits" "Word.fits" s_Word_fits
  m_Word_marked : Dm K (wc .word) "marked" "Way.marked" s_Way_marked
  m_Word_coded : Dm K (wc .word) "coded" "Way.coded" s_Way_coded
  m_Word_behind : Dm K (wc .word) "behind" "Way.behind" s_Way_behind
  m_Word_meant : Dm K (wc .word) "meant" "Way.meant" s_Way_meant
  m_Word_read : Dm K (wc .word) "read" "Way.read" s_Way_read
  m_Word_begins : Dm K (wc .word) "begins" "Way.begins" s_Way_begins
  m_Word_ends : Dm K (wc .word) "ends" "Word.ends" s_Word_ends
  m_Word_is_void : Dm K (wc .word) "is_void" "Way.is_void" s_Way_is_void
  m_Number_fits : Dm K (wc .number) "fits" "Number.fits" s_Number_fits
  m_Number_marked : Dm K (wc .number) "marked" "Number.marked" s_Number_marked
  m_Number_coded : Dm K (wc .number) "coded" "Way.coded" s_Way_coded
  m_Number_behind : Dm K (wc .number) "behind" "Number.behind" s_Number_behind
  m_Number_meant : Dm K (wc .number) "meant" "Number.meant" s_Number_meant
  m_Number_read : Dm K (wc .number) "read" "Way.read" s_Way_read
  m_Number_begins : Dm K (wc .number) "begins" "Number.begins" s_Number_begins
  m_Number_ends : Dm K (wc .number) "ends" "Number.ends" s_Number_ends
  m_Number_is_void : Dm K (wc .number) "is_void" "Way.is_void" s_Way_is_void
  m_Quoted_fits : Dm K (wc .quoted) "fits" "Way.fits" s_Way_fits
  m_Quoted_marked : Dm K (wc .quoted) "marked" "Quoted.marked" s_Quoted_marked
  m_Quoted_coded : Dm K (wc .quoted) "coded" "Way.coded" s_Way_coded
  m_Quoted_behind : Dm K (wc .quoted) "behind" "Quoted.behind" s_Quoted_behind
  m_Quoted_meant : Dm K (wc .quoted) "meant" "Quoted.meant" s_Quoted_meant
  m_Quoted_read : Dm K (wc .quoted) "read" "Way.read" s_Way_read
  m_Quoted_begins : Dm K (wc .quoted) "begins" "Quoted.begins" s_Quoted_begins
  m_Quoted_ends : Dm K (wc .quoted) "ends" "Quoted.ends" s_Quoted_ends
  m_Quoted_is_void : Dm K (wc .quoted) "is_void" "Way.is_void" s_Way_is_void
  m_Plain_fits : Dm K (wc .plain) "fits" "Way.fits" s_Way_fits
  m_Plain_marked : Dm K (wc .plain) "marked" "Plain.marked" s_Plain_marked
  m_Plain_coded : Dm K (wc .plain) "coded" "Way.coded" s_Way_coded
  m_Plain_behind : Dm K (wc .plain) "behind" "Way.behind" s_Way_behind
  m_Plain_meant : Dm K (wc .plain) "meant" "Plain.meant" s_Plain_meant
  m_Plain_read : Dm K (wc .plain) "read" "Way.read" s_Way_read
  m_Plain_begins : Dm K (wc .plain) "begins" "Way.begins" s_Way_begins
  m_Plain_ends : Dm K (wc .plain) "ends" "Plain.ends" s_Plain_ends
  m_Plain_is_void : Dm K (wc .plain) "is_void" "Plain.is_void" s_Plain_is_void
  m_Line_fits : Dm K (wc .line) "fits" "Way.fits" s_Way_fits
  m_Line_marked : Dm K (wc .line) "marked" "Line.marked" s_Line_marked
  m_Line_coded : Dm K (wc .line) "coded" "Way.coded" s_Way_coded
  m_Line_behind : Dm K (wc .line) "behind" "Way.behind" s_Way_behind
  m_Line_meant : Dm K (wc .line) "meant" "Line.meant" s_Line_meant
  m_Line_read : Dm K (wc .line) "read" "Way.read" s_Way_read
  m_Line_begins : Dm K (wc .line) "begins" "Way.begins" s_Way_begins
  m_Line_ends : Dm K (wc .line) "ends" "Line.ends" s_Line_ends
  m_Line_is_void : Dm K (wc .line) "is_void" "Line.is_void" s_Line_is_void
section
variable {P : Program} {w : World} {K : PySem.W.Frag} {mg : Str → Option Value} {base : Heap} {wc : Way → Addr} {nf : Addr}
theorem Df.fn {x : Str} {st : Stmt} {ps : List Str} {n : Nat} {sp : Sp} (D : Df K mg x st) (hb : ∀ {f : Addr} {fd : FuncData}, FnP K x x st f fd → Binds K fd ps []) (h : ∀ {f : Addr} {fd : FuncData}, FnP K x x st f fd → FnOk P w K mg base (L2.CX P w) n f fd ps sp) : Fn P w K mg base x ps n sp := by
  obtain ⟨f, fd, h1, F⟩ := D
  exact ⟨f, fd, h1, F.kp, hb F, h F⟩
theorem Dm.me {C : Addr} {m q : Str} {st : Stmt} {ps : List Str} {n : Nat} {sp : Sp} (D : Dm K C m q st) (hb : ∀ {f : Addr} {fd : FuncData}, FnP K m q st f fd → Binds K fd ps []) (h : ∀ {f : Addr} {fd : FuncData}, FnP K m q st f fd → FnOk P w K mg base (L2.CX P w) n f fd ps sp) : Me P w K mg base C m ps n sp := by
  obtain ⟨f, fd, h1, F⟩ := D
  exact ⟨f, fd, h1, hb F, h F⟩
theorem void_fn {x q : Str} {st : Stmt} {N ps : List Str} {sp : Sp} {k : Nat} {f : Addr} {fd : FuncData} (S : FnScope N ps (defScope st)) (hsp : ∀ vs H Q E, ¬ sp vs H Q E) (F : FnP K x q st f fd) : FnOk P w K mg base (L2.CX P w) (k + 1) f fd ps sp :=
  F.ok S (fun vs H Q E h => (hsp vs H Q E h).elim) fun cdv A outer s H vs Q E hr h => (hsp vs H Q E h).elim
theorem void_A {α : Type} {c : CtA α} (h : ∀ a, ¬ c.pre a) : ∀ vs H Q E, ¬ spA K wc nf c vs H Q E := fun vs H Q E ⟨a, P, ds, _, _, hp, _⟩ => h a hp.2
theorem void_B {α : Type} {c : CtB α} (h : ∀ a k, ¬ c.pre a k) : ∀ vs H Q E, ¬ spB K wc c vs H Q E := fun vs H Q E ⟨a, P, ds, s, k, _, _, _, _, hp, _⟩ => h a k hp.2
theorem ok_init (T : OexC K nf) (hno : PySem.W.findIn K (.ref nf) "at" = some none) {f : Addr} {fd : FuncData} (F : FnP K "__init__" "NoFill.__init__" s_NoFill___init__ f fd) : FnOk P w K mg base (L2.CX P w) 1 f fd ["self", "at"] (spI nf) := by
  have S : FnScope ["self", "at"] ["self", "at"] (defScope s_NoFill___init__) := ⟨rfl, rfl, rfl, by decide +kernel, rfl, by decide +kernel, by decide +kernel⟩
  refine F.ok S (fun vs H Q E h => ?_) fun cdv A outer s H vs Q E hr h => ⟨tInit K, ?_, pure_init T hno vs H Q E h⟩
  · obtain ⟨a, v, rfl, _⟩ := h; rfl
  · exact pss_one (ps_ost (pv 0) (pv 1))
theorem Ds.nfI (D : Ds K mg wc nf) : NfI P w K mg base nf 1 := by
  obtain ⟨f, fd, h1, h2, F⟩ := D.ini
  exact ⟨f, fd, h1, h2, b_NoFill___init__ F, ok_init D.fx.nfo D.fx.nfa F⟩
end
end K16
end

section
set_option maxHeartbeats 4000000
set_option autoImplicit false
/-! H3: the facts from the head. -/
namespace K16
open PySem PySem.Spec PyProof.Rows L2 SX
open C8 (clsBody)
section
variable {K : PySem.W.Frag} {h : Heap} {mg : Str → Option Value}
theorem gS_of {x t : Str} (e : ∃ u, mg x = some (.str t u)) : gS mg x t := by
  obtain ⟨u, e⟩ := e
  exact ⟨_, e, ⟨u, rfl⟩⟩
theorem gI_of {x : Str} {i : Int} (e : ∃ u, mg x = some (.int i u)) : gI mg x i := by
  obtain ⟨u, e⟩ := e
  exact ⟨_, e, ⟨u, rfl⟩⟩
theorem hex_nf (hx : exB K = true) : nfB K (He.ga K "NoFill") = true := (He.ba hx).1
theorem hex_mk (hx : exB K = true) : Mk0 K (He.ga K "Word") ∧ Mk0 K (He.ga K "Number") ∧ Mk0 K (He.ga K "Quoted") ∧ Mk0 K (He.ga K "Plain") ∧ Mk0 K (He.ga K "Line") := by
  obtain ⟨_, hx⟩ := He.ba hx
  obtain ⟨h1, hx⟩ := He.ba hx
  obtain ⟨h2, hx⟩ := He.ba hx
  obtain ⟨h3, hx⟩ := He.ba hx
  obtain ⟨h4, hx⟩ := He.ba hx
  obtain ⟨h5, hx⟩ := He.ba hx
  exact ⟨mk0B_ok h1, mk0B_ok h2, mk0B_ok h3, mk0B_ok h4, mk0B_ok h5⟩
theorem hex_tup (hx : exB K = true) : He.tupB K "AT_END" [.str "", .bl true] = true := by
  obtain ⟨_, hx⟩ := He.ba hx
  obtain ⟨h1, hx⟩ := He.ba hx
  obtain ⟨h2, hx⟩ := He.ba hx
  obtain ⟨h3, hx⟩ := He.ba hx
  obtain ⟨h4, hx⟩ := He.ba hx
  obtain ⟨h5, hx⟩ := He.ba hx
  exact hx
abbrev wcK (K : PySem.W.Frag) (v : Way) : Addr := He.ga K (wayC v)
theorem fx_of (X : K.In h) (G : h.Ns mainGlobals mg) (c : He.SaysD fa fn K) (hx : exB K = true) : Fx K mg (wcK K) (He.ga K "NoFill") where
  b_len := He.free_ok X G (c.fact 65 (f := .free "len") rfl)
  b_all := He.free_ok X G (c.fact 66 (f := .free "all") rfl)
  b_any := He.free_ok X G (c.fact 67 (f := .free "any") rfl)
  b_isinstance := He.free_ok X G (c.fact 68 (f := .free "isinstance") rfl)
  b_int := He.free_ok X G (c.fact 69 (f := .free "int") rfl)
  b_str := He.free_ok X G (c.fact 70 (f := .free "str") rfl)
  b_tuple := He.free_ok X G (c.fact 71 (f := .free "tuple") rfl)
  b_range := He.free_ok X G (c.fact 72 (f := .free "range") rfl)
  b_enumerate := He.free_ok X G (c.fact 73 (f := .free "enumerate") rfl)
  b_zip := He.free_ok X G (c.fact 74 (f := .free "zip") rfl)
  b_abs := He.free_ok X G (c.fact 75 (f := .free "abs") rfl)
  b_max := He.free_ok X G (c.fact 76 (f := .free "max") rfl)
  b_bool := He.free_ok X G (c.fact 77 (f := .free "bool") rfl)
  b_list := He.free_ok X G (c.fact 78 (f := .free "list") rfl)
  b_dict := He.free_ok X G (c.fact 79 (f := .free "dict") rfl)
  gLETTERS := gS_of (He.str_ok X G (c.fact 80 (f := .str "LETTERS" "abcdefghijklmnopqrstuvwxyz") rfl))
  gGREAT := gS_of (He.str_ok X G (c.fact 81 (f := .str "GREAT" "ABCDEFGHIJKLMNOPQRSTUVWXYZ") rfl))
  gFIGURES := gS_of (He.str_ok X G (c.fact 82 (f := .str "FIGURES" "0123456789") rfl))
  gSIGNS := gS_of (He.str_ok X G (c.fact 83 (f := .str "SIGNS" "\n !\"#$&'()*+,-./0123456789:;<=>?@ABCDEFGHIJKLMNOPQRSTUVWXYZ[\\]^_`abcdefghijklmnopqrstuvwxyz{|}~") rfl))
  gPLAIN_ENDS := gS_of (He.str_ok X G (c.fact 84 (f := .str "PLAIN_ENDS" "\n&<>|") rfl))
  gMOST_SIGNS := gI_of (He.int_ok X G (c.fact 85 (f := .int "MOST_SIGNS" 400) rfl))
  gMOST_LETTERS := gI_of (He.int_ok X G (c.fact 86 (f := .int "MOST_LETTERS" 40) rfl))
  gAT_END := ⟨_, He.glo_ok X G (c.fact 64 (f := .glo "AT_END") rfl), fun H => He.tupB_ok (hex_tup hx) H⟩
  way := fun v => match v with
    | .word => ⟨He.glo_ok X G (c.fact 58 (f := .glo "Word") rfl), (hex_mk hx).1, He.cls_ok (c.fact 87 (f := .cls "Word") rfl)⟩
    | .number => ⟨He.glo_ok X G (c.fact 59 (f := .glo "Number") rfl), (hex_mk hx).2.1, He.cls_ok (c.fact 88 (f := .cls "Number") rfl)⟩
    | .quoted => ⟨He.glo_ok X G (c.fact 60 (f := .glo "Quoted") rfl), (hex_mk hx).2.2.1, He.cls_ok (c.fact 89 (f := .cls "Quoted") rfl)⟩
    | .plain => ⟨He.glo_ok X G (c.fact 61 (f := .glo "Plain") rfl), (hex_mk hx).2.2.2.1, He.cls_ok (c.fact 90 (f := .cls "Plain") rfl)⟩
    | .line => ⟨He.glo_ok X G (c.fact 62 (f := .glo "Line") rfl), (hex_mk hx).2.2.2.2, He.cls_ok (c.fact 91 (f := .cls "Line") rfl)⟩
  nfm := He.glo_ok X G (c.fact 63 (f := .glo "NoFill") rfl)
  nfo := (nfB_ok (hex_nf hx)).1
  nfa := He.noat_ok (c.fact 139 (f := .noat "NoFill" "at") rfl)
theorem ds_of (X : K.In h) (G : h.Ns mainGlobals mg) (c : He.SaysD fa fn K) (hx : exB K = true) : Ds K mg (wcK K) (He.ga K "NoFill") where
  fx := fx_of X G c hx
  xf := (nfB_ok (hex_nf hx)).2
  exm := He.exm_ok (c.fact 138 (f := .exm "NoFill" "NoFill" true) rfl)
  ini := by
    obtain ⟨fd, F⟩ := (c.def_ 103 (d := d_NoFill___init__) rfl)
    have m := He.meth_ok (c.fact 137 (f := .meth "NoFill" "__init__") rfl)
    exact ⟨_, fd, m.1, beq_iff_eq.mp m.2, F⟩
  g_is_text := by
    obtain ⟨fd, F⟩ := (c.def_ 0 (d := d_is_text) rfl)
    exact ⟨_, fd, He.glo_ok X G (c.fact 0 (f := .glo "is_text") rfl), F⟩
  g_without := by
    obtain ⟨fd, F⟩ := (c.def_ 1 (d := d_without) rfl)
    exact ⟨_, fd, He.glo_ok X G (c.fact 1 (f := .glo "without") rfl), F⟩
  g_is_whole := by
    obtain ⟨fd, F⟩ := (c.def_ 2 (d := d_is_whole) rfl)
    exact ⟨_, fd, He.glo_ok X G (c.fact 2 (f := .glo "is_whole") rfl), F⟩
  g_is_number := by
    obtain ⟨fd, F⟩ := (c.def_ 3 (d := d_is_number) rfl)
    exact ⟨_, fd, He.glo_ok X G (c.fact 3 (f := .glo "is_number") rfl), F⟩
  g_unmarked := by
    obtain ⟨fd, F⟩ := (c.def_ 4 (d := d_unmarked) rfl)
    exact ⟨_, fd, He.glo_ok X G (c.fact 4 (f := .glo "unmarked") rfl), F⟩
  g_way_of := by
    obtain ⟨fd, F⟩ := (c.def_ 5 (d := d_way_of) rfl)
    exact ⟨_, fd, He.glo_ok X G (c.fact 5 (f := .glo "way_of") rfl), F⟩
  g_united := by
    obtain ⟨fd, F⟩ := (c.def_ 6 (d := d_united) rfl)
    exact ⟨_, fd, He.glo_ok X G (c.fact 6 (f := .glo "united") rfl), F⟩
  g_loop_begins := by
    obtain ⟨fd, F⟩ := (c.def_ 7 (d := d_loop_begins) rfl)
    exact ⟨_, fd, He.glo_ok X G (c.fact 7 (f := .glo "loop_begins") rfl), F⟩
  g_node_begins := by
    obtain ⟨fd, F⟩ := (c.def_ 8 (d := d_node_begins) rfl)
    exact ⟨_, fd, He.glo_ok X G (c.fact 8 (f := .glo "node_begins") rfl), F⟩
  g_begins := by
    obtain ⟨fd, F⟩ := (c.def_ 9 (d := d_begins) rfl)
    exact ⟨_, fd, He.glo_ok X G (c.fact 9 (f := .glo "begins") rfl), F⟩
  g_side_begins := by
    obtain ⟨fd, F⟩ := (c.def_ 10 (d := d_side_begins) rfl)
    exact ⟨_, fd, He.glo_ok X G (c.fact 10 (f := .glo "side_begins") rfl), F⟩
  g_follows := by
    obtain ⟨fd, F⟩ := (c.def_ 11 (d := d_follows) rfl)
    exact ⟨_, fd, He.glo_ok X G (c.fact 11 (f := .glo "follows") rfl), F⟩
  g_again_begins := by
    obtain ⟨fd, F⟩ := (c.def_ 12 (d := d_again_begins) rfl)
    exact ⟨_, fd, He.glo_ok X G (c.fact 12 (f := .glo "again_begins") rfl), F⟩
  g_within_loop := by
    obtain ⟨fd, F⟩ := (c.def_ 13 (d := d_within_loop) rfl)
    exact ⟨_, fd, He.glo_ok X G (c.fact 13 (f := .glo "within_loop") rfl), F⟩
  g_have_common := by
    obtain ⟨fd, F⟩ := (c.def_ 14 (d := d_have_common) rfl)
    exact ⟨_, fd, He.glo_ok X G (c.fact 14 (f := .glo "have_common") rfl), F⟩
  g_unclear_loop := by
    obtain ⟨fd, F⟩ := (c.def_ 15 (d := d_unclear_loop) rfl)
    exact ⟨_, fd, He.glo_ok X G (c.fact 15 (f := .glo "unclear_loop") rfl), F⟩
  g_unclear_choice := by
    obtain ⟨fd, F⟩ := (c.def_ 16 (d := d_unclear_choice) rfl)
    exact ⟨_, fd, He.glo_ok X G (c.fact 16 (f := .glo "unclear_choice") rfl), F⟩
  g_unclear_node := by
    obtain ⟨fd, F⟩ := (c.def_ 17 (d := d_unclear_node) rfl)
    exact ⟨_, fd, He.glo_ok X G (c.fact 17 (f := .glo "unclear_node") rfl), F⟩
  g_unclear_nodes := by
    obtain ⟨fd, F⟩ := (c.def_ 18 (d := d_unclear_nodes) rfl)
    exact ⟨_, fd, He.glo_ok X G (c.fact 18 (f := .glo "unclear_nodes") rfl), F⟩
  g_unclear := by
    obtain ⟨fd, F⟩ := (c.def_ 19 (d := d_unclear) rfl)
    exact ⟨_, fd, He.glo_ok X G (c.fact 19 (f := .glo "unclear") rfl), F⟩
  g_side_readied := by
    obtain ⟨fd, F⟩ := (c.def_ 20 (d := d_side_readied) rfl)
    exact ⟨_, fd, He.glo_ok X G (c.fact 20 (f := .glo "side_readied") rfl), F⟩
  g_node_readied := by
    obtain ⟨fd, F⟩ := (c.def_ 21 (d := d_node_readied) rfl)
    exact ⟨_, fd, He.glo_ok X G (c.fact 21 (f := .glo "node_readied") rfl), F⟩
  g_readied := by
    obtain ⟨fd, F⟩ := (c.def_ 22 (d := d_readied) rfl)
    exact ⟨_, fd, He.glo_ok X G (c.fact 22 (f := .glo "readied") rfl), F⟩
  g_text_read := by
    obtain ⟨fd, F⟩ := (c.def_ 23 (d := d_text_read) rfl)
    exact ⟨_, fd, He.glo_ok X G (c.fact 23 (f := .glo "text_read") rfl), F⟩
  g_loop_read := by
    obtain ⟨fd, F⟩ := (c.def_ 24 (d := d_loop_read) rfl)
    exact ⟨_, fd, He.glo_ok X G (c.fact 24 (f := .glo "loop_read") rfl), F⟩
  g_choice_read := by
    obtain ⟨fd, F⟩ := (c.def_ 25 (d := d_choice_read) rfl)
    exact ⟨_, fd, He.glo_ok X G (c.fact 25 (f := .glo "choice_read") rfl), F⟩
  g_node_read := by
    obtain ⟨fd, F⟩ := (c.def_ 26 (d := d_node_read) rfl)
    exact ⟨_, fd, He.glo_ok X G (c.fact 26 (f := .glo "node_read") rfl), F⟩
  g_nodes_read := by
    obtain ⟨fd, F⟩ := (c.def_ 27 (d := d_nodes_read) rfl)
    exact ⟨_, fd, He.glo_ok X G (c.fact 27 (f := .glo "nodes_read") rfl), F⟩
  g_read_back := by
    obtain ⟨fd, F⟩ := (c.def_ 28 (d := d_read_back) rfl)
    exact ⟨_, fd, He.glo_ok X G (c.fact 28 (f := .glo "read_back") rfl), F⟩
  g_node_spelt := by
    obtain ⟨fd, F⟩ := (c.def_ 29 (d := d_node_spelt) rfl)
    exact ⟨_, fd, He.glo_ok X G (c.fact 29 (f := .glo "node_spelt") rfl), F⟩
  g_spelt := by
    obtain ⟨fd, F⟩ := (c.def_ 30 (d := d_spelt) rfl)
    exact ⟨_, fd, He.glo_ok X G (c.fact 30 (f := .glo "spelt") rfl), F⟩
  g_l_cell_at := by
    obtain ⟨fd, F⟩ := (c.def_ 31 (d := d_l_cell_at) rfl)
    exact ⟨_, fd, He.glo_ok X G (c.fact 31 (f := .glo "_law_cell_at") rfl), F⟩
  g_l_cell := by
    obtain ⟨fd, F⟩ := (c.def_ 32 (d := d_l_cell) rfl)
    exact ⟨_, fd, He.glo_ok X G (c.fact 32 (f := .glo "_law_cell") rfl), F⟩
  g_l_marks := by
    obtain ⟨fd, F⟩ := (c.def_ 33 (d := d_l_marks) rfl)
    exact ⟨_, fd, He.glo_ok X G (c.fact 33 (f := .glo "_law_marks") rfl), F⟩
  g_l_names := by
    obtain ⟨fd, F⟩ := (c.def_ 34 (d := d_l_names) rfl)
    exact ⟨_, fd, He.glo_ok X G (c.fact 34 (f := .glo "_law_names") rfl), F⟩
  g_l_text := by
    obtain ⟨fd, F⟩ := (c.def_ 35 (d := d_l_text) rfl)
    exact ⟨_, fd, He.glo_ok X G (c.fact 35 (f := .glo "_law_text") rfl), F⟩
  g_l_row := by
    obtain ⟨fd, F⟩ := (c.def_ 36 (d := d_l_row) rfl)
    exact ⟨_, fd, He.glo_ok X G (c.fact 36 (f := .glo "_law_row") rfl), F⟩
  g_l_scope := by
    obtain ⟨fd, F⟩ := (c.def_ 37 (d := d_l_scope) rfl)
    exact ⟨_, fd, He.glo_ok X G (c.fact 37 (f := .glo "_law_scope") rfl), F⟩
  g_l_one := by
    obtain ⟨fd, F⟩ := (c.def_ 38 (d := d_l_one) rfl)
    exact ⟨_, fd, He.glo_ok X G (c.fact 38 (f := .glo "_law_one") rfl), F⟩
  g_l_way := by
    obtain ⟨fd, F⟩ := (c.def_ 39 (d := d_l_way) rfl)
    exact ⟨_, fd, He.glo_ok X G (c.fact 39 (f := .glo "_law_way") rfl), F⟩
  g_l_place := by
    obtain ⟨fd, F⟩ := (c.def_ 40 (d := d_l_place) rfl)
    exact ⟨_, fd, He.glo_ok X G (c.fact 40 (f := .glo "_law_place") rfl), F⟩
  g_l_loop := by
    obtain ⟨fd, F⟩ := (c.def_ 41 (d := d_l_loop) rfl)
    exact ⟨_, fd, He.glo_ok X G (c.fact 41 (f := .glo "_law_loop") rfl), F⟩
  g_l_choice := by
    obtain ⟨fd, F⟩ := (c.def_ 42 (d := d_l_choice) rfl)
    exact ⟨_, fd, He.glo_ok X G (c.fact 42 (f := .glo "_law_choice") rfl), F⟩
  g_l_nodes := by
    obtain ⟨fd, F⟩ := (c.def_ 43 (d := d_l_nodes) rfl)
    exact ⟨_, fd, He.glo_ok X G (c.fact 43 (f := .glo "_law_nodes") rfl), F⟩
  g_l_form := by
    obtain ⟨fd, F⟩ := (c.def_ 44 (d := d_l_form) rfl)
    exact ⟨_, fd, He.glo_ok X G (c.fact 44 (f := .glo "_law_form") rfl), F⟩
  g_l_figure := by
    obtain ⟨fd, F⟩ := (c.def_ 45 (d := d_l_figure) rfl)
    exact ⟨_, fd, He.glo_ok X G (c.fact 45 (f := .glo "_law_figure") rfl), F⟩
  g_l_value := by
    obtain ⟨fd, F⟩ := (c.def_ 46 (d := d_l_value) rfl)
    exact ⟨_, fd, He.glo_ok X G (c.fact 46 (f := .glo "_law_value") rfl), F⟩
  g_l_same := by
    obtain ⟨fd, F⟩ := (c.def_ 47 (d := d_l_same) rfl)
    exact ⟨_, fd, He.glo_ok X G (c.fact 47 (f := .glo "_law_same") rfl), F⟩
  g_l_copied := by
    obtain ⟨fd, F⟩ := (c.def_ 48 (d := d_l_copied) rfl)
    exact ⟨_, fd, He.glo_ok X G (c.fact 48 (f := .glo "_law_copied") rfl), F⟩
  g_l_coded := by
    obtain ⟨fd, F⟩ := (c.def_ 49 (d := d_l_coded) rfl)
    exact ⟨_, fd, He.glo_ok X G (c.fact 49 (f := .glo "_law_coded") rfl), F⟩
  g_l_spoilt := by
    obtain ⟨fd, F⟩ := (c.def_ 50 (d := d_l_spoilt) rfl)
    exact ⟨_, fd, He.glo_ok X G (c.fact 50 (f := .glo "_law_spoilt") rfl), F⟩
  g_l_fill := by
    obtain ⟨fd, F⟩ := (c.def_ 51 (d := d_l_fill) rfl)
    exact ⟨_, fd, He.glo_ok X G (c.fact 51 (f := .glo "_law_fill") rfl), F⟩
  g_l_text_bent := by
    obtain ⟨fd, F⟩ := (c.def_ 52 (d := d_l_text_bent) rfl)
    exact ⟨_, fd, He.glo_ok X G (c.fact 52 (f := .glo "_law_text_bent") rfl), F⟩
  g_l_sound := by
    obtain ⟨fd, F⟩ := (c.def_ 53 (d := d_l_sound) rfl)
    exact ⟨_, fd, He.glo_ok X G (c.fact 53 (f := .glo "_law_sound") rfl), F⟩
  g_l_whole := by
    obtain ⟨fd, F⟩ := (c.def_ 54 (d := d_l_whole) rfl)
    exact ⟨_, fd, He.glo_ok X G (c.fact 54 (f := .glo "_law_whole") rfl), F⟩
  g_l_long := by
    obtain ⟨fd, F⟩ := (c.def_ 55 (d := d_l_long) rfl)
    exact ⟨_, fd, He.glo_ok X G (c.fact 55 (f := .glo "_law_long") rfl), F⟩
  g_l_read := by
    obtain ⟨fd, F⟩ := (c.def_ 56 (d := d_l_read) rfl)
    exact ⟨_, fd, He.glo_ok X G (c.fact 56 (f := .glo "_law_read") rfl), F⟩
  g_law := by
    obtain ⟨fd, F⟩ := (c.def_ 57 (d := d_law) rfl)
    exact ⟨_, fd, He.glo_ok X G (c.fact 57 (f := .glo "law") rfl), F⟩
  m_Word_fits := by
    obtain ⟨fd, F⟩ := (c.def_ 58 (d := d_Word_fits) rfl)
    exact ⟨_, fd, He.meth_ok (c.fact 92 (f := .meth "Word" "fits") rfl), F⟩
  m_Word_marked := by
    obtain ⟨fd, F⟩ := (c.def_ 59 (d := d_Word_marked) rfl)
    exact ⟨_, fd, He.meth_ok (c.fact 93 (f := .meth "Word" "marked") rfl), F⟩
  m_Word_coded := by
    obtain ⟨fd, F⟩ := (c.def_ 60 (d := d_Word_coded) rfl)
    exact ⟨_, fd, He.meth_ok (c.fact 94 (f := .meth "Word" "coded") rfl), F⟩
  m_Word_behind := by
    obtain ⟨fd, F⟩ := (c.def_ 61 (d := d_Word_behind) rfl)
    exact ⟨_, fd, He.meth_ok (c.fact 95 (f := .meth "Word" "behind") rfl), F⟩
  m_Word_meant := by
    obtain ⟨fd, F⟩ := (c.def_ 62 (d := d_Word_meant) rfl)
    exact ⟨_, fd, He.meth_ok (c.fact 96 (f := .meth "Word" "meant") rfl), F⟩
  m_Word_read := by
    obtain ⟨fd, F⟩ := (c.def_ 63 (d := d_Word_read) rfl)
    exact ⟨_, fd, He.meth_ok (c.fact 97 (f := .meth "Word" "read") rfl), F⟩
  m_Word_begins := by
    obtain ⟨fd, F⟩ := (c.def_ 64 (d := d_Word_begins) rfl)
    exact ⟨_, fd, He.meth_ok (c.fact 98 (f := .meth "Word" "begins") rfl), F⟩
  m_Word_ends := by
    obtain ⟨fd, F⟩ := (c.def_ 65 (d := d_Word_ends) rfl)
    exact ⟨_, fd, He.meth_ok (c.fact 99 (f := .meth "Word" "ends") rfl), F⟩
  m_Word_is_void := by
    obtain ⟨fd, F⟩ := (c.def_ 66 (d := d_Word_is_void) rfl)
    exact ⟨_, fd, He.meth_ok (c.fact 100 (f := .meth "Word" "is_void") rfl), F⟩
  m_Number_fits := by
    obtain ⟨fd, F⟩ := (c.def_ 67 (d := d_Number_fits) rfl)
    exact ⟨_, fd, He.meth_ok (c.fact 101 (f := .meth "Number" "fits") rfl), F⟩
  m_Number_marked := by
    obtain ⟨fd, F⟩ := (c.def_ 68 (d := d_Number_marked) rfl)
    exact ⟨_, fd, He.meth_ok (c.fact 102 (f := .meth "Number" "marked") rfl), F⟩
  m_Number_coded := by
    obtain ⟨fd, F⟩ := (c.def_ 69 (d := d_Number_coded) rfl)
    exact ⟨_, fd, He.meth_ok (c.fact 103 (f := .meth "Number" "coded") rfl), F⟩
  m_Number_behind := by
    obtain ⟨fd, F⟩ := (c.def_ 70 (d := d_Number_behind) rfl)
    exact ⟨_, fd, He.meth_ok (c.fact 104 (f := .meth "Number" "behind") rfl), F⟩
  m_Number_meant := by
    obtain ⟨fd, F⟩ := (c.def_ 71 (d := d_Number_meant) rfl)
    exact ⟨_, fd, He.meth_ok (c.fact 105 (f := .meth "Number" "meant") rfl), F⟩
  m_Number_read := by
    obtain ⟨fd, F⟩ := (c.def_ 72 (d := d_Number_read) rfl)
    exact ⟨_, fd, He.meth_ok (c.fact 106 (f := .meth "Number" "read") rfl), F⟩
  m_Number_begins := by
    obtain ⟨fd, F⟩ := (c.def_ 73 (d := d_Number_begins) rfl)
    exact ⟨_, fd, He.meth_ok (c.fact 107 (f := .meth "Number" "begins") rfl), F⟩
  m_Number_ends := by
    obtain ⟨fd, F⟩ := (c.def_ 74 (d := d_Number_ends) rfl)
    exact ⟨_, fd, He.meth_ok (c.fact 108 (f := .meth "Number" "ends") rfl), F⟩
  m_Number_is_void := by
    obtain ⟨fd, F⟩ := (c.def_ 75 (d := d_Number_is_void) rfl)
    exact ⟨_, fd, He.meth_ok (c.fact 109 (f := .meth "Number" "is_void") rfl), F⟩
  m_Quoted_fits := by
    obtain ⟨fd, F⟩ := (c.def_ 76 (d := d_Quoted_fits) rfl)
    exact ⟨_, fd, He.meth_ok (c.fact 110 (f := .meth "Quoted" "fits") rfl), F⟩
  m_Quoted_marked := by
    obtain ⟨fd, F⟩ := (c.def_ 77 (d := d_Quoted_marked) rfl)
    exact ⟨_, fd, He.meth_ok (c.fact 111 (f := .meth "Quoted" "marked") rfl), F⟩
  m_Quoted_coded := by
    obtain ⟨fd, F⟩ := (c.def_ 78 (d := d_Quoted_coded) rfl)
    exact ⟨_, fd, He.meth_ok (c.fact 112 (f := .meth "Quoted" "coded") rfl), F⟩
  m_Quoted_behind := by
    obtain ⟨fd, F⟩ := (c.def_ 79 (d := d_Quoted_behind) rfl)
    exact ⟨_, fd, He.meth_ok (c.fact 113 (f := .meth "Quoted" "behind") rfl), F⟩
  m_Quoted_meant := by
    obtain ⟨fd, F⟩ := (c.def_ 80 (d := d_Quoted_meant) rfl)
    exact ⟨_, fd, He.meth_ok (c.fact 114 (f := .meth "Quoted" "meant") rfl), F⟩
  m_Quoted_read := by
    obtain ⟨fd, F⟩ := (c.def_ 81 (d := d_Quoted_read) rfl)
    exact ⟨_, fd, He.meth_ok (c.fact 115 (f := .meth "Quoted" "read") rfl), F⟩
  m_Quoted_begins := by
    obtain ⟨fd, F⟩ := (c.def_ 82 (d := d_Quoted_begins) rfl)
    exact ⟨_, fd, He.meth_ok (c.fact 116 (f := .meth "Quoted" "begins") rfl), F⟩
  m_Quoted_ends := by
    obtain ⟨fd, F⟩ := (c.def_ 83 (d := d_Quoted_ends) rfl)
    exact ⟨_, fd, He.meth_ok (c.fact 117 (f := .meth "Quoted" "ends") rfl), F⟩
  m_Quoted_is_void := by
    obtain ⟨fd, F⟩ := (c.def_ 84 (d := d_Quoted_is_void) rfl)
    exact ⟨_, fd, He.meth_ok (c.fact 118 (f := .meth "Quoted" "is_void") rfl), F⟩
  m_Plain_fits := by
    obtain ⟨fd, F⟩ := (c.def_ 85 (d := d_Plain_fits) rfl)
    exact ⟨_, fd, He.meth_ok (c.fact 119 (f := .meth "Plain" "fits") rfl), F⟩
  m_Plain_marked := by
    obtain ⟨fd, F⟩ := (c.def_ 86 (d := d_Plain_marked) rfl)
    exact ⟨_, fd, He.meth_ok (c.fact 120 (f := .meth "Plain" "marked") rfl), F⟩
  m_Plain_coded := by
    obtain ⟨fd, F⟩ := (c.def_ 87 (d := d_Plain_coded) rfl)
    exact ⟨_, fd, He.meth_ok (c.fact 121 (f := .meth "Plain" "coded") rfl), F⟩
  m_Plain_behind := by
    obtain ⟨fd, F⟩ := (c.def_ 88 (d := d_Plain_behind) rfl)
    exact ⟨_, fd, He.meth_ok (c.fact 122 (f := .meth "Plain" "behind") rfl), F⟩
  m_Plain_meant := by
    obtain ⟨fd, F⟩ := (c.def_ 89 (d := d_Plain_meant) rfl)
    exact ⟨_, fd, He.meth_ok (c.fact 123 (f := .meth "Plain" "meant") rfl), F⟩
  m_Plain_read := by
    obtain ⟨fd, F⟩ := (c.def_ 90 (d := d_Plain_read) rfl)
    exact ⟨_, fd, He.meth_ok (c.fact 124 (f := .meth "Plain" "read") rfl), F⟩
  m_Plain_begins := by
    obtain ⟨fd, F⟩ := (c.def_ 91 (d := d_Plain_begins) rfl)
    exact ⟨_, fd, He.meth_ok (c.fact 125 (f := .meth "Plain" "begins") rfl), F⟩
  m_Plain_ends := by
    obtain ⟨fd, F⟩ := (c.def_ 92 (d := d_Plain_ends) rfl)
    exact ⟨_, fd, He.meth_ok (c.fact 126 (f := .meth "Plain" "ends") rfl), F⟩
  m_Plain_is_void := by
    obtain ⟨fd, F⟩ := (c.def_ 93 (d := d_Plain_is_void) rfl)
    exact ⟨_, fd, He.meth_ok (c.fact 127 (f := .meth "Plain" "is_void") rfl), F⟩
  m_Line_fits := by
    obtain ⟨fd, F⟩ := (c.def_ 94 (d := d_Line_fits) rfl)
    exact ⟨_, fd, He.meth_ok (c.fact 128 (f := .meth "Line" "fits") rfl), F⟩
  m_Line_marked := by
    obtain ⟨fd, F⟩ := (c.def_ 95 (d := d_Line_marked) rfl)
    exact ⟨_, fd, He.meth_ok (c.fact 129 (f := .meth "Line" "marked") rfl), F⟩
  m_Line_coded := by
    obtain ⟨fd, F⟩ := (c.def_ 96 (d := d_Line_coded) rfl)
    exact ⟨_, fd, He.meth_ok (c.fact 130 (f := .meth "Line" "coded") rfl), F⟩
  m_Line_behind := by
    obtain ⟨fd, F⟩ := (c.def_ 97 (d := d_Line_behind) rfl)
    exact ⟨_, fd, He.meth_ok (c.fact 131 (f := .meth "Line" "behind") rfl), F⟩
  m_Line_meant := by
    obtain ⟨fd, F⟩ := (c.def_ 98 (d := d_Line_meant) rfl)
    exact ⟨_, fd, He.meth_ok (c.fact 132 (f := .meth "Line" "meant") rfl), F⟩
  m_Line_read := by
    obtain ⟨fd, F⟩ := (c.def_ 99 (d := d_Line_read) rfl)
    exact ⟨_, fd, He.meth_ok (c.fact 133 (f := .meth "Line" "read") rfl), F⟩
  m_Line_begins := by
    obtain ⟨fd, F⟩ := (c.def_ 100 (d := d_Line_begins) rfl)
    exact ⟨_, fd, He.meth_ok (c.fact 134 (f := .meth "Line" "begins") rfl), F⟩
  m_Line_ends := by
    obtain ⟨fd, F⟩ := (c.def_ 101 (d := d_Line_ends) rfl)
    exact ⟨_, fd, He.meth_ok (c.fact 135 (f := .meth "Line" "ends") rfl), F⟩
  m_Line_is_void := by
    obtain ⟨fd, F⟩ := (c.def_ 102 (d := d_Line_is_void) rfl)
    exact ⟨_, fd, He.meth_ok (c.fact 136 (f := .meth "Line" "is_void") rfl), F⟩
end
end K16
end

section
set_option maxHeartbeats 4000000
set_option autoImplicit false
/-! H4: all defs keep their promises, level by level. -/
namespace K16
open PySem PySem.Spec PyProof.Rows L2 SX
open C8 (clsBody)
section
variable {P : Program} {w : World} {K : PySem.W.Frag} {mg : Str → Option Value} {base : Heap} {wc : Way → Addr} {nf : Addr}
/-! ### without recursion -/
theorem lv_without (D : Ds K mg wc nf) : Fn P w K mg base "without" ["some"] 1 (spA K wc nf cWithout) := D.g_without.fn b_without fun F => ok_without (k := 0) D.fx F
theorem lv_is_text (D : Ds K mg wc nf) : Fn P w K mg base "is_text" ["thing", "most"] 1 (spA K wc nf cIsText) := D.g_is_text.fn b_is_text fun F => ok_is_text (k := 0) D.fx F
theorem lv_is_whole (D : Ds K mg wc nf) : Fn P w K mg base "is_whole" ["thing"] 1 (spA K wc nf cIsWhole) := D.g_is_whole.fn b_is_whole fun F => ok_is_whole (k := 0) D.fx F
theorem lv_is_number (D : Ds K mg wc nf) : Fn P w K mg base "is_number" ["thing"] 2 (spA K wc nf cIsNumber) := D.g_is_number.fn b_is_number fun F => ok_is_number (k := 1) D.fx F (lv_is_whole D)
theorem lv_united (D : Ds K mg wc nf) : Fn P w K mg base "united" ["one", "other"] 1 (spA K wc nf cUnited) := D.g_united.fn b_united fun F => ok_united (k := 0) D.fx F
theorem lv_have_common (D : Ds K mg wc nf) : Fn P w K mg base "have_common" ["one", "other"] 1 (spA K wc nf cCommon) := D.g_have_common.fn b_have_common fun F => ok_have_common (k := 0) D.fx F
theorem lv_unmarked (D : Ds K mg wc nf) : Fn P w K mg base "unmarked" ["text", "mark", "told"] 1 (spA K wc nf cUnm) := D.g_unmarked.fn b_unmarked fun F => ok_unmarked (k := 0) D.fx F
theorem lv_way_of (D : Ds K mg wc nf) : Fn P w K mg base "way_of" ["word"] 1 (spA K wc nf cWayOf) := D.g_way_of.fn b_way_of fun F => ok_way_of (k := 0) D.fx F
theorem Ds.cl (D : Ds K mg wc nf) (v : Way) : Cls K (wc v) := (D.fx.way v).2.2
theorem lv_ends (D : Ds K mg wc nf) : ∀ v, Me P w K mg base (wc v) "ends" ["self"] 2 (spA K wc nf (cEnds v))
  | .word => D.m_Word_ends.me b_Word_ends fun F => ok_Word_ends (k := 1) D.fx F (lv_without D)
  | .number => D.m_Number_ends.me b_Number_ends fun F => ok_Number_ends (k := 1) D.fx F (lv_without D)
  | .quoted => D.m_Quoted_ends.me b_Quoted_ends fun F => ok_Quoted_ends (k := 1) D.fx F (lv_without D)
  | .plain => D.m_Plain_ends.me b_Plain_ends fun F => ok_Plain_ends (k := 1) D.fx F
  | .line => D.m_Line_ends.me b_Line_ends fun F => ok_Line_ends (k := 1) D.fx F
theorem lv_begins_w (D : Ds K mg wc nf) : ∀ v, Me P w K mg base (wc v) "begins" ["self"] 3 (spA K wc nf (cBegins v))
  | .word => D.m_Word_begins.me b_Way_begins fun F => ok_Way_begins (k := 2) (v := .word) rfl D.fx F ((lv_without D).up (by decide)) (D.cl .word) (lv_ends D .word)
  | .number => D.m_Number_begins.me b_Number_begins fun F => ok_Number_begins (k := 2) D.fx F
  | .quoted => D.m_Quoted_begins.me b_Quoted_begins fun F => ok_Quoted_begins (k := 2) D.fx F
  | .plain => D.m_Plain_begins.me b_Way_begins fun F => ok_Way_begins (k := 2) (v := .plain) rfl D.fx F ((lv_without D).up (by decide)) (D.cl .plain) (lv_ends D .plain)
  | .line => D.m_Line_begins.me b_Way_begins fun F => ok_Way_begins (k := 2) (v := .line) rfl D.fx F ((lv_without D).up (by decide)) (D.cl .line) (lv_ends D .line)
theorem lv_is_void (D : Ds K mg wc nf) : ∀ v, Me P w K mg base (wc v) "is_void" ["self"] 1 (spA K wc nf (cVoid v))
  | .word => D.m_Word_is_void.me b_Way_is_void fun F => ok_Way_is_void (k := 0) (v := .word) rfl D.fx F
  | .number => D.m_Number_is_void.me b_Way_is_void fun F => ok_Way_is_void (k := 0) (v := .number) rfl D.fx F
  | .quoted => D.m_Quoted_is_void.me b_Way_is_void fun F => ok_Way_is_void (k := 0) (v := .quoted) rfl D.fx F
  | .plain => D.m_Plain_is_void.me b_Plain_is_void fun F => ok_Plain_is_void (k := 0) D.fx F
  | .line => D.m_Line_is_void.me b_Line_is_void fun F => ok_Line_is_void (k := 0) D.fx F
theorem lv_fits (D : Ds K mg wc nf) : ∀ v, Me P w K mg base (wc v) "fits" ["self", "value"] 3 (spA K wc nf (cFits v))
  | .word => D.m_Word_fits.me b_Word_fits fun F => ok_Word_fits (k := 2) D.fx F
  | .number => D.m_Number_fits.me b_Number_fits fun F => ok_Number_fits (k := 2) D.fx F (lv_is_number D)
  | .quoted => D.m_Quoted_fits.me b_Way_fits fun F => ok_Way_fits (k := 2) (.inl rfl) D.fx F ((lv_is_text D).up (by decide))
  | .plain => D.m_Plain_fits.me b_Way_fits fun F => ok_Way_fits (k := 2) (.inr (.inl rfl)) D.fx F ((lv_is_text D).up (by decide))
  | .line => D.m_Line_fits.me b_Way_fits fun F => ok_Way_fits (k := 2) (.inr (.inr rfl)) D.fx F ((lv_is_text D).up (by decide))
theorem lv_marked (D : Ds K mg wc nf) : ∀ v, Me P w K mg base (wc v) "marked" ["self", "value"] 3 (spA K wc nf (cMarked v))
  | .word => D.m_Word_marked.me b_Way_marked fun F => ok_Way_marked (k := 2) D.fx F
  | .number => D.m_Number_marked.me b_Number_marked fun F => ok_Number_marked (k := 2) D.fx F
  | .quoted => D.m_Quoted_marked.me b_Quoted_marked fun F => ok_Quoted_marked (k := 2) D.fx F
  | .plain => D.m_Plain_marked.me b_Plain_marked fun F => ok_Plain_marked (k := 2) D.fx F
  | .line => D.m_Line_marked.me b_Line_marked fun F => ok_Line_marked (k := 2) D.fx F
theorem lv_meant (D : Ds K mg wc nf) : ∀ v, Me P w K mg base (wc v) "meant" ["self", "stretch"] 3 (spA K wc nf (cMeant v))
  | .word => D.m_Word_meant.me b_Way_meant fun F => ok_Way_meant (k := 2) D.fx F
  | .number => D.m_Number_meant.me b_Number_meant fun F => ok_Number_meant (k := 2) D.fx F
  | .quoted => D.m_Quoted_meant.me b_Quoted_meant fun F => ok_Quoted_meant (k := 2) D.fx F ((lv_unmarked D).up (by decide))
  | .plain => D.m_Plain_meant.me b_Plain_meant fun F => ok_Plain_meant (k := 2) D.fx F ((lv_unmarked D).up (by decide))
  | .line => D.m_Line_meant.me b_Line_meant fun F => ok_Line_meant (k := 2) D.fx F ((lv_unmarked D).up (by decide))
theorem lv_behind (D : Ds K mg wc nf) : ∀ v, Me P w K mg base (wc v) "behind" ["self", "text", "at"] 3 (spA K wc nf (cBehind v))
  | .word => D.m_Word_behind.me b_Way_behind fun F => ok_Way_behind (k := 2) (.inl rfl) D.fx F (D.cl .word) (lv_ends D .word)
  | .number => D.m_Number_behind.me b_Number_behind fun F => ok_Number_behind (k := 2) D.fx F
  | .quoted => D.m_Quoted_behind.me b_Quoted_behind fun F => ok_Quoted_behind (k := 2) D.fx F
  | .plain => D.m_Plain_behind.me b_Way_behind fun F => ok_Way_behind (k := 2) (.inr (.inl rfl)) D.fx F (D.cl .plain) (lv_ends D .plain)
  | .line => D.m_Line_behind.me b_Way_behind fun F => ok_Way_behind (k := 2) (.inr (.inr rfl)) D.fx F (D.cl .line) (lv_ends D .line)
theorem lv_coded (D : Ds K mg wc nf) : ∀ v, Me P w K mg base (wc v) "coded" ["self", "value"] 4 (spA K wc nf (cCoded v))
  | .word => D.m_Word_coded.me b_Way_coded fun F => ok_Way_coded (k := 3) D.fx F (D.cl _) (lv_fits D _) (lv_marked D _)
  | .number => D.m_Number_coded.me b_Way_coded fun F => ok_Way_coded (k := 3) D.fx F (D.cl _) (lv_fits D _) (lv_marked D _)
  | .quoted => D.m_Quoted_coded.me b_Way_coded fun F => ok_Way_coded (k := 3) D.fx F (D.cl _) (lv_fits D _) (lv_marked D _)
  | .plain => D.m_Plain_coded.me b_Way_coded fun F => ok_Way_coded (k := 3) D.fx F (D.cl _) (lv_fits D _) (lv_marked D _)
  | .line => D.m_Line_coded.me b_Way_coded fun F => ok_Way_coded (k := 3) D.fx F (D.cl _) (lv_fits D _) (lv_marked D _)
theorem lv_read (D : Ds K mg wc nf) : ∀ v, Me P w K mg base (wc v) "read" ["self", "text", "at"] 4 (spA K wc nf (cRead v))
  | .word => D.m_Word_read.me b_Way_read fun F => ok_Way_read (k := 3) D.fx F (D.cl _) (lv_behind D _) (lv_meant D _) (lv_fits D _) (lv_marked D _)
  | .number => D.m_Number_read.me b_Way_read fun F => ok_Way_read (k := 3) D.fx F (D.cl _) (lv_behind D _) (lv_meant D _) (lv_fits D _) (lv_marked D _)
  | .quoted => D.m_Quoted_read.me b_Way_read fun F => ok_Way_read (k := 3) D.fx F (D.cl _) (lv_behind D _) (lv_meant D _) (lv_fits D _) (lv_marked D _)
  | .plain => D.m_Plain_read.me b_Way_read fun F => ok_Way_read (k := 3) D.fx F (D.cl _) (lv_behind D _) (lv_meant D _) (lv_fits D _) (lv_marked D _)
  | .line => D.m_Line_read.me b_Way_read fun F => ok_Way_read (k := 3) D.fx F (D.cl _) (lv_behind D _) (lv_meant D _) (lv_fits D _) (lv_marked D _)
/-! ### begins -/
theorem lv_begins (D : Ds K mg wc nf) : ∀ n, Fn P w K mg base "node_begins" ["node"] (5 + 3 * n) (spA K wc nf (cNb n)) ∧ Fn P w K mg base "begins" ["nodes"] (6 + 3 * n) (spA K wc nf (cBg n)) := by
  intro n
  induction n with
  | zero =>
    have h1 : Fn P w K mg base "node_begins" ["node"] 5 (spA K wc nf (cNb 0)) := D.g_node_begins.fn b_node_begins fun F => void_fn (k := 4) sc_node_begins (void_A fun a h => absurd h.2 (Nat.not_lt_zero _)) F
    exact ⟨h1, D.g_begins.fn b_begins fun F => ok_begins (k := 5) D.fx F h1 ((lv_united D).up (by decide))⟩
  | succ n ih =>
    have h0 : Fn P w K mg base "loop_begins" ["node"] (7 + 3 * n) (spA K wc nf (cLb n)) := (D.g_loop_begins.fn b_loop_begins fun F => ok_loop_begins (k := 6 + 3 * n) D.fx F ih.2 ((lv_united D).up (by omega))).up (by omega)
    have h1 : Fn P w K mg base "node_begins" ["node"] (5 + 3 * (n + 1)) (spA K wc nf (cNb (n + 1))) :=
      (D.g_node_begins.fn b_node_begins fun F => ok_node_begins (k := 7 + 3 * n) D.fx F D.cl ((lv_way_of D).up (by omega)) h0 (ih.2.up (by omega)) ((lv_united D).up (by omega)) (fun v => (lv_begins_w D v).up (by omega)) (fun v => (lv_is_void D v).up (by omega))).up (by omega)
    exact ⟨h1, (D.g_begins.fn b_begins fun F => ok_begins (k := 5 + 3 * (n + 1)) D.fx F h1 ((lv_united D).up (by omega))).up (by omega)⟩
theorem lv_bg (D : Ds K mg wc nf) {n : Nat} (hn : n ≤ 24) : Fn P w K mg base "begins" ["nodes"] 78 (spA K wc nf (cBg n)) := (lv_begins D n).2.up (by omega)
theorem lv_side (D : Ds K mg wc nf) {n : Nat} (hn : n ≤ 24) : Fn P w K mg base "side_begins" ["nodes", "follow"] 79 (spA K wc nf (cSide n)) := D.g_side_begins.fn b_side_begins fun F => ok_side_begins (k := 78) D.fx F (lv_bg D hn) ((lv_united D).up (by decide))
theorem lv_follows (D : Ds K mg wc nf) {n : Nat} (hn : n ≤ 24) : Fn P w K mg base "follows" ["nodes", "at", "follow"] 80 (spA K wc nf (cFollows n)) := D.g_follows.fn b_follows fun F => ok_follows (k := 79) D.fx F (lv_side D hn)
theorem lv_again (D : Ds K mg wc nf) {n : Nat} (hn : n ≤ 24) : Fn P w K mg base "again_begins" ["node"] 79 (spA K wc nf (cAgain n)) := D.g_again_begins.fn b_again_begins fun F => ok_again_begins (k := 78) D.fx F (lv_bg D hn)
theorem lv_within (D : Ds K mg wc nf) {n : Nat} (hn : n ≤ 24) : Fn P w K mg base "within_loop" ["node", "follow"] 80 (spA K wc nf (cWithin n)) := D.g_within_loop.fn b_within_loop fun F => ok_within_loop (k := 79) D.fx F (lv_again D hn) ((lv_united D).up (by decide))
/-! ### clear -/
theorem lv_unclear_nodes (D : Ds K mg wc nf) : ∀ n, n ≤ 24 → Fn P w K mg base "unclear_node" ["node", "follow"] (81 + 3 * n) (spA K wc nf (cUn n)) ∧ Fn P w K mg base "unclear_nodes" ["nodes", "follow"] (82 + 3 * n) (spA K wc nf (cUc n)) := by
  intro n
  induction n with
  | zero =>
    intro hn
    have h1 : Fn P w K mg base "unclear_node" ["node", "follow"] 81 (spA K wc nf (cUn 0)) := D.g_unclear_node.fn b_unclear_node fun F => void_fn (k := 80) sc_unclear_node (void_A fun a h => absurd h.2.1 (Nat.not_lt_zero _)) F
    exact ⟨h1, D.g_unclear_nodes.fn b_unclear_nodes fun F => ok_unclear_nodes (k := 81) (by decide) D.fx F h1 ((lv_follows D hn).up (by decide))⟩
  | succ n ih =>
    intro hn
    have ih := ih (by omega)
    have hn' : n ≤ 24 := by omega
    have h0 : Fn P w K mg base "unclear_loop" ["node", "follow"] (83 + 3 * n) (spA K wc nf (cUl n)) := (D.g_unclear_loop.fn b_unclear_loop fun F => ok_unclear_loop (k := 82 + 3 * n) D.fx F ((lv_bg D hn').up (by omega)) ((lv_have_common D).up (by omega)) ih.2 ((lv_within D hn').up (by omega))).up (by omega)
    have h2 : Fn P w K mg base "unclear_choice" ["node", "follow"] (83 + 3 * n) (spA K wc nf (cUh n)) := (D.g_unclear_choice.fn b_unclear_choice fun F => ok_unclear_choice (k := 82 + 3 * n) (by omega) D.fx F ((lv_side D hn').up (by omega)) ((lv_have_common D).up (by omega)) ih.2).up (by omega)
    have h1 : Fn P w K mg base "unclear_node" ["node", "follow"] (81 + 3 * (n + 1)) (spA K wc nf (cUn (n + 1))) :=
      (D.g_unclear_node.fn b_unclear_node fun F => ok_unclear_node (k := 83 + 3 * n) D.fx F D.cl ((lv_way_of D).up (by omega)) (fun v => (lv_ends D v).up (by omega)) h0 h2).up (by omega)
    exact ⟨h1, (D.g_unclear_nodes.fn b_unclear_nodes fun F => ok_unclear_nodes (k := 81 + 3 * (n + 1)) (by omega) D.fx F h1 ((lv_follows D hn).up (by omega))).up (by omega)⟩
theorem lv_unclear (D : Ds K mg wc nf) : Fn P w K mg base "unclear" ["form"] 155 (spA K wc nf (cUnclear 24)) := D.g_unclear.fn b_unclear fun F => ok_unclear (k := 154) D.fx F ((lv_unclear_nodes D 24 (Nat.le_refl _)).2.up (by decide))
/-! ### readied -/
theorem lv_readied (D : Ds K mg wc nf) : ∀ n, n ≤ 24 → Fn P w K mg base "node_readied" ["node", "follow"] (81 + 3 * n) (spA K wc nf (cRn n)) ∧ Fn P w K mg base "readied" ["nodes", "follow"] (82 + 3 * n) (spA K wc nf (cRd n)) := by
  intro n
  induction n with
  | zero =>
    intro hn
    have h1 : Fn P w K mg base "node_readied" ["node", "follow"] 81 (spA K wc nf (cRn 0)) := D.g_node_readied.fn b_node_readied fun F => void_fn (k := 80) sc_node_readied (void_A fun a h => absurd h.2 (Nat.not_lt_zero _)) F
    exact ⟨h1, D.g_readied.fn b_readied fun F => ok_readied (k := 81) D.fx F h1 ((lv_follows D hn).up (by decide))⟩
  | succ n ih =>
    intro hn
    have ih := ih (by omega)
    have hn' : n ≤ 24 := by omega
    have h0 : Fn P w K mg base "side_readied" ["truth", "nodes", "follow"] (83 + 3 * n) (spA K wc nf (cRs n)) := (D.g_side_readied.fn b_side_readied fun F => ok_side_readied (k := 82 + 3 * n) D.fx F ((lv_side D hn').up (by omega)) ih.2).up (by omega)
    have h1 : Fn P w K mg base "node_readied" ["node", "follow"] (81 + 3 * (n + 1)) (spA K wc nf (cRn (n + 1))) :=
      (D.g_node_readied.fn b_node_readied fun F => ok_node_readied (k := 83 + 3 * n) D.fx F ((lv_way_of D).up (by omega)) ((lv_bg D hn').up (by omega)) ((lv_again D hn').up (by omega)) (ih.2.up (by omega)) ((lv_within D hn').up (by omega)) h0).up (by omega)
    exact ⟨h1, (D.g_readied.fn b_readied fun F => ok_readied (k := 81 + 3 * (n + 1)) D.fx F h1 ((lv_follows D hn).up (by omega))).up (by omega)⟩
/-! ### reading -/
theorem lv_text_read (D : Ds K mg wc nf) : Fn P w K mg base "text_read" ["wanted", "text", "at"] 3 (spA K wc nf cTr) := D.g_text_read.fn b_text_read fun F => ok_text_read (k := 2) (n0 := 1) D.fx D.nfI (by decide) F
theorem lv_nodes_read (D : Ds K mg wc nf) : ∀ n, Fn P w K mg base "node_read" ["node", "text", "at"] (10 + 3 * n) (spA K wc nf (cNd n)) ∧ Fn P w K mg base "nodes_read" ["nodes", "text", "at"] (11 + 3 * n) (spA K wc nf (cNr n)) := by
  intro n
  induction n with
  | zero =>
    have h1 : Fn P w K mg base "node_read" ["node", "text", "at"] 10 (spA K wc nf (cNd 0)) := D.g_node_read.fn b_node_read fun F => void_fn (k := 9) sc_node_read (void_A fun a h => absurd h.1.2.2.1 (Nat.not_lt_zero _)) F
    exact ⟨h1, D.g_nodes_read.fn b_nodes_read fun F => ok_nodes_read (k := 10) D.fx F ((lv_text_read D).up (by decide)) h1⟩
  | succ n ih =>
    have h0 : Fn P w K mg base "loop_read" ["node", "text", "at"] (12 + 3 * n) (spA K wc nf (cLr (n + 1))) := (D.g_loop_read.fn b_loop_read fun F => ok_loop_read (k := 11 + 3 * n) D.fx F ((lv_text_read D).up (by omega)) ih.2).up (by omega)
    have h2 : Fn P w K mg base "choice_read" ["node", "text", "at"] (12 + 3 * n) (spA K wc nf (cHr (n + 1))) := (D.g_choice_read.fn b_choice_read fun F => ok_choice_read (k := 11 + 3 * n) (n0 := 1) D.fx D.nfI (by omega) F ih.2).up (by omega)
    have h1 : Fn P w K mg base "node_read" ["node", "text", "at"] (10 + 3 * (n + 1)) (spA K wc nf (cNd (n + 1))) :=
      (D.g_node_read.fn b_node_read fun F => ok_node_read (k := 12 + 3 * n) (n0 := 1) D.fx D.nfI (by omega) F D.cl h0 h2 (fun v => (lv_read D v).up (by omega))).up (by omega)
    exact ⟨h1, (D.g_nodes_read.fn b_nodes_read fun F => ok_nodes_read (k := 10 + 3 * (n + 1)) D.fx F ((lv_text_read D).up (by omega)) h1).up (by omega)⟩
theorem lv_read_back (D : Ds K mg wc nf) : Fn P w K mg base "read_back" ["form", "text"] 155 (spA K wc nf (cRB 24)) :=
  D.g_read_back.fn b_read_back fun F => ok_read_back (k := 154) D.fx trivial F ((lv_is_text D).up (by decide)) ((lv_nodes_read D 24).2.up (by decide)) ((lv_readied D 24 (Nat.le_refl _)).2.up (by decide)) (n0 := 1) D.nfI (by decide)
theorem lv_l_read (D : Ds K mg wc nf) : Fn P w K mg base "_law_read" ["_law_form_here", "_law_text_here"] 156 (spA K wc nf (cLRd 24)) := D.g_l_read.fn b_l_read fun F => ok_l_read (k := 155) D.fx D.exm D.xf F (lv_read_back D)
/-! ### spelt -/
theorem lv_spelt (D : Ds K mg wc nf) : ∀ n, Fn P w K mg base "node_spelt" ["node", "one"] (10 + 2 * n) (spA K wc nf (cSn n)) ∧ Fn P w K mg base "spelt" ["form", "fill"] (11 + 2 * n) (spA K wc nf (cSp n)) := by
  intro n
  induction n with
  | zero =>
    have h1 : Fn P w K mg base "node_spelt" ["node", "one"] 10 (spA K wc nf (cSn 0)) := D.g_node_spelt.fn b_node_spelt fun F => void_fn (k := 9) sc_node_spelt (void_A fun a h => absurd h.1.2.2.1 (Nat.not_lt_zero _)) F
    exact ⟨h1, D.g_spelt.fn b_spelt fun F => ok_spelt (k := 10) D.fx F h1⟩
  | succ n ih =>
    have h1 : Fn P w K mg base "node_spelt" ["node", "one"] (10 + 2 * (n + 1)) (spA K wc nf (cSn (n + 1))) :=
      (D.g_node_spelt.fn b_node_spelt fun F => ok_node_spelt (k := 11 + 2 * n) D.fx F D.cl ((lv_way_of D).up (by omega)) ih.2 (fun v => (lv_coded D v).up (by omega))).up (by omega)
    exact ⟨h1, (D.g_spelt.fn b_spelt fun F => ok_spelt (k := 10 + 2 * (n + 1)) D.fx F h1).up (by omega)⟩
/-! ### the law's own defs -/
theorem lv_cell_at (D : Ds K mg wc nf) : Fn P w K mg base "_law_cell_at" ["_law_script", "_law_k"] 1 (spCA K) := D.g_l_cell_at.fn b_l_cell_at fun F => ok_l_cell_at2 (k := 0) D.fx F
theorem lv_cell (D : Ds K mg wc nf) : Fn P w K mg base "_law_cell" ["_law_cells", "_law_spot"] 1 (spB K wc cCell) := D.g_l_cell.fn b_l_cell fun F => ok_l_cell (k := 0) D.fx F
theorem lv_marks (D : Ds K mg wc nf) : Fn P w K mg base "_law_marks" [] 1 (spA K wc nf cMarks) := D.g_l_marks.fn b_l_marks fun F => ok_l_marks (k := 0) D.fx F
theorem lv_text (D : Ds K mg wc nf) : Fn P w K mg base "_law_text" ["_law_n"] 2 (spA K wc nf cText) := D.g_l_text.fn b_l_text fun F => ok_l_text (k := 1) D.fx F (lv_marks D)
theorem lv_way (D : Ds K mg wc nf) : Fn P w K mg base "_law_way" ["_law_kind", "_law_n"] 1 (spA K wc nf cWay) := D.g_l_way.fn b_l_way fun F => ok_l_way (k := 0) D.fx F
theorem lv_row (D : Ds K mg wc nf) : Fn P w K mg base "_law_row" ["_law_path", "_law_names_here"] 1 (spA K wc nf cRow) := D.g_l_row.fn b_l_row fun F => ok_l_row (k := 0) D.fx F
theorem lv_scope (D : Ds K mg wc nf) : Fn P w K mg base "_law_scope" ["_law_names_here"] 2 (spA K wc nf cScope) := D.g_l_scope.fn b_l_scope fun F => ok_l_scope (k := 1) D.fx F (lv_row D)
theorem lv_names (D : Ds K mg wc nf) : Fn P w K mg base "_law_names" ["_law_n"] 1 (spA K wc nf cNames) := D.g_l_names.fn b_l_names fun F => ok_l_names (k := 0) D.fx F
theorem lv_place (D : Ds K mg wc nf) : Fn P w K mg base "_law_place" ["_law_path", "_law_kind", "_law_tidy", "_law_n"] 3 (spA K wc nf cPlace) := D.g_l_place.fn b_l_place fun F => ok_l_place (k := 2) D.fx F ((lv_way D).up (by decide)) (lv_text D)
theorem lv_one (D : Ds K mg wc nf) : Fn P w K mg base "_law_one" ["_law_nodes_here"] 1 (spA K wc nf cOne) := D.g_l_one.fn b_l_one fun F => ok_l_one (k := 0) D.fx F
theorem lv_nodes (D : Ds K mg wc nf) : ∀ d, d ≤ 20 → Fn P w K mg base "_law_nodes" ["_law_cells", "_law_spot", "_law_at", "_law_deep"] (12 + 2 * d) (spB K wc (cNds d)) := by
  intro d
  induction d with
  | zero =>
    intro hd
    have h1 : Fn P w K mg base "_law_loop" ["_law_cells", "_law_spot", "_law_at", "_law_path", "_law_kind", "_law_deep"] 11 (spB K wc (cLopD 0)) := D.g_l_loop.fn b_l_loop fun F => void_fn (k := 10) sc_l_loop (void_B fun a k h => h) F
    have h2 : Fn P w K mg base "_law_choice" ["_law_cells", "_law_spot", "_law_at", "_law_path", "_law_deep"] 11 (spB K wc (cChoD 0)) := D.g_l_choice.fn b_l_choice fun F => void_fn (k := 10) sc_l_choice (void_B fun a k h => h) F
    exact D.g_l_nodes.fn b_l_nodes fun F => ok_l_nodes (k := 11) hd D.fx F ((lv_cell D).up (by decide)) ((lv_text D).up (by decide)) ((lv_place D).up (by decide)) h1 h2
  | succ d ih =>
    intro hd
    have ih := ih (by omega)
    have h1 : Fn P w K mg base "_law_loop" ["_law_cells", "_law_spot", "_law_at", "_law_path", "_law_kind", "_law_deep"] (13 + 2 * d) (spB K wc (cLopD (d + 1))) :=
      (D.g_l_loop.fn b_l_loop fun F => ok_l_loop (k := 12 + 2 * d) (by omega) D.fx F ((lv_cell D).up (by omega)) ((lv_row D).up (by omega)) ih ((lv_marks D).up (by omega)) ((lv_one D).up (by omega))).up (by omega)
    have h2 : Fn P w K mg base "_law_choice" ["_law_cells", "_law_spot", "_law_at", "_law_path", "_law_deep"] (13 + 2 * d) (spB K wc (cChoD (d + 1))) :=
      (D.g_l_choice.fn b_l_choice fun F => ok_l_choice (k := 12 + 2 * d) (by omega) D.fx F ((lv_cell D).up (by omega)) ih ((lv_marks D).up (by omega)) ((lv_one D).up (by omega))).up (by omega)
    exact (D.g_l_nodes.fn b_l_nodes fun F => ok_l_nodes (k := 13 + 2 * d) hd D.fx F ((lv_cell D).up (by omega)) ((lv_text D).up (by omega)) ((lv_place D).up (by omega)) h1 h2).up (by omega)
theorem lv_form (D : Ds K mg wc nf) : Fn P w K mg base "_law_form" ["_law_cells", "_law_spot", "_law_first", "_law_tidy"] 19 (spB K wc cForm) :=
  D.g_l_form.fn b_l_form fun F => ok_l_form (k := 18) D.fx F ((lv_names D).up (by decide)) ((lv_scope D).up (by decide)) ((lv_nodes D 3 (by decide)).up (by decide)) ((lv_cell D).up (by decide)) ((lv_one D).up (by decide)) ((lv_marks D).up (by decide))
theorem lv_figure (D : Ds K mg wc nf) : Fn P w K mg base "_law_figure" ["_law_n"] 1 (spA K wc nf cFig) := D.g_l_figure.fn b_l_figure fun F => ok_l_figure (k := 0) D.fx F
theorem lv_value (D : Ds K mg wc nf) : Fn P w K mg base "_law_value" ["_law_kind", "_law_n", "_law_odd"] 2 (spA K wc nf cVal) := D.g_l_value.fn b_l_value fun F => ok_l_value (k := 1) D.fx F (lv_figure D) (lv_marks D)
theorem lv_fill (D : Ds K mg wc nf) : ∀ m, Fn P w K mg base "_law_fill" ["_law_cells", "_law_spot", "_law_nodes_here"] (3 + m) (spB K wc (cFil m)) := by
  intro m
  induction m with
  | zero => exact D.g_l_fill.fn b_l_fill fun F => void_fn (k := 2) sc_l_fill (void_B fun a k h => absurd h.2.2.2 (Nat.not_lt_zero _)) F
  | succ m ih => exact (D.g_l_fill.fn b_l_fill fun F => ok_l_fill (k := 3 + m) D.fx F ((lv_cell D).up (by omega)) ((lv_value D).up (by omega)) ih).up (by omega)
theorem lv_copied (D : Ds K mg wc nf) : ∀ m, Fn P w K mg base "_law_copied" ["_law_thing"] (1 + m) (spA K wc nf (cCop m)) := by
  intro m
  induction m with
  | zero => exact D.g_l_copied.fn b_l_copied fun F => void_fn (k := 0) sc_l_copied (void_A fun a h => absurd h.2 (Nat.not_lt_zero _)) F
  | succ m ih => exact (D.g_l_copied.fn b_l_copied fun F => ok_l_copied (k := 1 + m) D.fx F ih).up (by omega)
theorem lv_same (D : Ds K mg wc nf) : ∀ m, Fn P w K mg base "_law_same" ["_law_found", "_law_due"] (1 + m) (spA K wc nf (cSame m)) := by
  intro m
  induction m with
  | zero => exact D.g_l_same.fn b_l_same fun F => void_fn (k := 0) sc_l_same (void_A fun a h => absurd h.2 (Nat.not_lt_zero _)) F
  | succ m ih => exact (D.g_l_same.fn b_l_same fun F => ok_l_same (k := 1 + m) D.fx F ih).up (by omega)
theorem lv_spoilt (D : Ds K mg wc nf) : ∀ m, Fn P w K mg base "_law_spoilt" ["_law_fill_here"] (1 + m) (spSpoil K wc m) := by
  intro m
  induction m with
  | zero => exact D.g_l_spoilt.fn b_l_spoilt fun F => void_fn (k := 0) sc_l_spoilt (fun vs H Q E ⟨U, H0, k0, l, v, _, _, _, _, hd, _⟩ => absurd hd (Nat.not_lt_zero _)) F
  | succ m ih => exact (D.g_l_spoilt.fn b_l_spoilt fun F => ok_l_spoilt (k := 1 + m) D.fx F ih).up (by omega)
theorem lv_bent (D : Ds K mg wc nf) : Fn P w K mg base "_law_text_bent" ["_law_text_here", "_law_n"] 2 (spA K wc nf cBent) := D.g_l_text_bent.fn b_l_text_bent fun F => ok_l_text_bent (k := 1) D.fx F (lv_marks D)
theorem lv_coded_l (D : Ds K mg wc nf) : Fn P w K mg base "_law_coded" ["_law_way_here", "_law_value_here"] 1 (spA K wc nf cCod) := D.g_l_coded.fn b_l_coded fun F => ok_l_coded (k := 0) D.fx F
theorem lv_sound (D : Ds K mg wc nf) : ∀ m, Fn P w K mg base "_law_sound" ["_law_nodes_here", "_law_fill_here"] (2 + m) (spA K wc nf (cSou m)) := by
  intro m
  induction m with
  | zero => exact D.g_l_sound.fn b_l_sound fun F => void_fn (k := 1) sc_l_sound (void_A fun a h => absurd h.1.2.2 (Nat.not_lt_zero _)) F
  | succ m ih => exact (D.g_l_sound.fn b_l_sound fun F => ok_l_sound (k := 2 + m) D.fx F ((lv_coded_l D).up (by omega)) ih).up (by omega)
theorem lv_whole (D : Ds K mg wc nf) : Fn P w K mg base "_law_whole" ["_law_found"] 1 (spA K wc nf cIsWhole) := D.g_l_whole.fn b_l_whole fun F => ok_l_whole (k := 0) D.fx F
theorem lv_long (D : Ds K mg wc nf) : Fn P w K mg base "_law_long" ["_law_cells", "_law_spot"] 2 (spB K wc cLong) := D.g_l_long.fn b_l_long fun F => ok_l_long (k := 1) D.fx F (lv_cell D) (lv_marks D)
/-- the law -/
theorem lv_law (D : Ds K mg wc nf) {f : Addr} {fd : FuncData} (F : FnP K "law" "law" s_law f fd) : FnOk P w K mg base (L2.CX P w) 157 f fd ["_law_script"] (spLaw K) :=
  ok_law (k := 156) (n := 24) (Nat.le_refl _) D.fx F ((lv_cell_at D).up (by decide)) ((lv_form D).up (by decide)) ((lv_unclear D).up (by decide)) ((lv_fill D 24).up (by decide)) ((lv_long D).up (by decide)) ((lv_copied D 60).up (by decide)) ((lv_spelt D 24).2.up (by decide)) (lv_l_read D)
    ((lv_same D 60).up (by decide)) ((lv_spoilt D 60).up (by decide)) ((lv_bent D).up (by decide)) ((lv_cell D).up (by decide)) ((lv_sound D 24).up (by decide)) ((lv_whole D).up (by decide))
end
end K16
end

section
set_option maxHeartbeats 0
set_option autoImplicit false
/-! H5: the end. -/
namespace K16
open PySem PySem.Spec PyProof.Rows L2 SX
theorem law_calm {P : Program} {w : World} {K : PySem.W.Frag} {mg : Str → Option Value} {base : Heap} {k : Nat} {f : Addr} {fd : FuncData} (F : FnOk P w K mg base (L2.CX P w) k f fd ["_law_script"] (spLaw K)) : FnOk P w K mg base L2.CX0 k f fd ["_law_script"] (spLaw K) :=
  ⟨F.len, fun A outer s H args us vs Q E hr he hb hv hs => codeAny_mono (F.run A outer s H args us vs Q (fun _ _ _ => False) hr he hb hv hs) fun r s' hq => by
    cases r with
    | error e =>
      obtain ⟨_, _, _, _, _, _, _, _, _, _, _, _, z⟩ := (hq : L2.CX P w outer H s (fun _ _ _ => False) e s')
      exact z.elim
    | ok fl => cases fl <;> exact hq⟩
theorem law_end {P : Program} {w : World} {K : PySem.W.Frag} {h : Heap} {mg : Str → Option Value} {f : Addr} (X : K.In h) (G : h.Ns mainGlobals mg) (hfa : mg ("law" : Str) = some (.ref f)) (c : He.SaysD fa fn K) (hx : exB K = true) :
    ∃ fd : FuncData, (∀ (s : Shared) (v : Value), BindsTo s fd ⟨[v], []⟩ [("_law_script", v)]) ∧ ∀ base : Heap, K.In base → base.Ns mainGlobals mg → FnOk P w K mg base L2.CX0 157 f fd ["_law_script"] (spLaw K) := by
  have D := ds_of X G c hx
  obtain ⟨f', fd, hm, F⟩ := D.g_law
  have e := hfa.symm.trans hm
  cases e
  have b := FunD.bindsA (ps := ["_law_script"]) F fun _ _ _ _ _ _ us hl => match us, hl with | [_], _ => rfl
  exact ⟨fd, fun s v => b s [v] rfl, fun base _ _ => law_calm (lv_law D F)⟩
end K16
open PySem PySem.W PySem.Calls PyProof.Rows
theorem PySem.Challenge.cw_formsmith_k16_whole_there_and_back_holds : PySem.Challenge.rw_formsmith_k16_whole_there_and_back.Holds := by
  w_on; o_law
  refine HandSHeadRun.head_any (r := OpenLaw.row PySem.Challenge.rw_formsmith_k16_whole_there_and_back) (q := view (OpenLaw.row PySem.Challenge.rw_formsmith_k16_whole_there_and_back).prog [84]) (H := K16.hk) (ob := K16.ob) (M := 12000) (loose := K16.names) (d := HandSHeadRun.topDef (OpenLaw.row PySem.Challenge.rw_formsmith_k16_whole_there_and_back).prog 84) (kwd := []) K16.ob_eq
    (by kernel_rfl) (fun s => by kernel_rfl) K16.run (by kernel_rfl) (by kernel_rfl) (by kernel_rfl) (by rfl) (by first | assumption | decide +kernel) (by decide +kernel) ⟨rfl, rfl, rfl, rfl, rfl, by decide +kernel⟩ ?hw ?hc
  case hw => w_witness2
  case hc =>
    refine L2.walk_ofE (l := PySem.Challenge.rw_formsmith_k16_whole_there_and_back) (n := 63) (k := 157) (x := "_law_script") (CX := L2.CX0) rfl (by decide) (by kernel_rfl) ⟨rfl, by decide, by decide⟩ ?F (fun _ _ _ _ z => z)
    intro w mg fa h Y G hmg0
    obtain ⟨K, KX, c, hx⟩ := Y
    have hmg : mg ("law" : PySem.Str) = some (.ref fa) := by
      have e : (HandSHeadRun.topDef (OpenLaw.row PySem.Challenge.rw_formsmith_k16_whole_there_and_back).prog 84).name = ("law" : PySem.Str) := by kernel_rfl
      rw [← e]
      exact hmg0
    obtain ⟨fd, hb, hF⟩ := K16.law_end (P := (PySem.Challenge.rw_formsmith_k16_whole_there_and_back).prog) (w := w) KX G hmg c hx
    exact ⟨K, fd, K16.spLaw K, KX, hb, fun H a ns hl _ hS => ⟨a, ns, rfl, hS, hl, fun _ _ e => e⟩, hF⟩
end
