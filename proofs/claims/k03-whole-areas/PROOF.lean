import PyProof.Rows.All
import Wide.All
import OpenK.AllK
import Wide.FinOn
import HandS.ForMost
import HandS.ReplaceList
import HandS.Codes
import HandS.ForExc
import HandS.More
import HandS.FStr
import HandS.Property
import HandS.ClsMeth
import HandS.Star
import HandS.MakeKwOnly
import HandS.IsInst
import HandS.Flow
import HandS.SlotsOwn
import HandS.ExcInit
import HandS.ExcField
import HandS.ExcIs
import KE.KExcSuper
import KE.KExcMake
import KE.KTryMore
import HandS.Lambda
import KE.KIsAll
import HandS.Walk
import KE.GoesEnum
import HandS.Strs
import HandS.ReplaceLit
import HandS.Steps
import PyProof.ListStr
import HandS.AnyAll
import PySem.Challenge.RW_toldcounts_k03_whole_areas_made_and_read
import KE.DataEq
import HandS.WordsExc
import HandS.TryOnly
import PyProof.ReprLoop
import PyProof.ReprReads
import PyProof.StrLawsRepr
import HandS.Conv
import HandS.Style
import HandS.TupAny
import HandS.EndTab
import HandS.EndBits
import HandS.Ends
import KE.RegKSuper
set_option Elab.async false
set_option linter.all false
set_option maxRecDepth 100000
set_option maxHeartbeats 4000000
/-! The mathematics: lines of areas, their texts, reading them back. No program in sight. -/
namespace K3
open PySem TL

/-! ### texts -/
theorem tl_nil_iff {x : Str} : tl x = [] ↔ x = Str.empty := ⟨fun h => ext_tl h, fun h => by rw [h]; rfl⟩
theorem len0 {x : Str} : x.length = 0 ↔ x = Str.empty := by rw [len_tl, List.length_eq_zero_iff, tl_nil_iff]
theorem empty_app (x : Str) : Str.empty ++ x = x := ext_tl (by rw [tl_append]; rfl)
theorem app_assoc (x y z : Str) : x ++ y ++ z = x ++ (y ++ z) := ext_tl (by rw [tl_append, tl_append, tl_append, tl_append, List.append_assoc])
/-- one sign's text -/
def sgn (c : Nat) : Str := ⟨#[c]⟩
theorem tl_sgn (c : Nat) : tl (sgn c) = [c] := rfl
theorem pre1 (c d : Nat) (r : List Nat) : pre [c] (d :: r) = decide (d = c) := by
  by_cases h : d = c
  · subst h; simp [pre]
  · rw [decide_eq_false h]; exact pre_of_head [] r h
/-- cut at one sign -/
theorem joinL_spl (c : Nat) : ∀ (l acc : List Nat), joinL [c] (spl [c] 0 acc l) = acc ++ l
  | [], acc => by rw [spl_nil, List.append_nil]; rfl
  | d :: r, acc => by
    by_cases h : d = c
    · have hp : pre [c] (d :: r) = true := by rw [pre1]; exact decide_eq_true h
      rw [spl_hit hp]
      have ih := joinL_spl c r []
      show joinL [c] (acc :: spl [c] 0 [] r) = _
      have hne : spl [c] 0 [] r ≠ [] := by
        cases r with
        | nil => rw [spl_nil]; simp
        | cons e r =>
          intro q
          have : joinL [c] (spl [c] 0 [] (e :: r)) = [] := by rw [q]; rfl
          rw [joinL_spl c (e :: r) []] at this
          simp at this
      cases e : spl [c] 0 [] r with
      | nil => exact absurd e hne
      | cons p ps =>
        show acc ++ ([c] ++ joinL [c] (p :: ps)) = _
        rw [← e, ih, h]; simp
    · have hp : pre [c] (d :: r) = false := by rw [pre1]; exact decide_eq_false h
      rw [spl_miss hp, joinL_spl c r (acc ++ [d])]; simp
theorem spl_ne (c : Nat) (acc l : List Nat) : spl [c] 0 acc l ≠ [] := by
  induction l generalizing acc with
  | nil => rw [spl_nil]; simp
  | cons d r ih =>
    by_cases h : d = c
    · rw [spl_hit (by rw [pre1]; exact decide_eq_true h)]; simp
    · rw [spl_miss (by rw [pre1]; exact decide_eq_false h)]; exact ih _
theorem spl_free (c : Nat) : ∀ (l acc : List Nat), c ∉ acc → ∀ p ∈ spl [c] 0 acc l, c ∉ p
  | [], acc, ha, p, hp => by
    rw [spl_nil] at hp
    rw [List.mem_singleton.mp hp]; exact ha
  | d :: r, acc, ha, p, hp => by
    by_cases h : d = c
    · rw [spl_hit (by rw [pre1]; exact decide_eq_true h)] at hp
      rcases List.mem_cons.mp hp with e | e
      · rw [e]; exact ha
      · exact spl_free c r [] (by simp) p e
    · rw [spl_miss (by rw [pre1]; exact decide_eq_false h)] at hp
      refine spl_free c r (acc ++ [d]) ?_ p hp
      intro q
      rcases List.mem_append.mp q with q | q
      · exact ha q
      · exact h (List.mem_singleton.mp q).symm
theorem kind1 {c : Nat} (hc : c < 256) : (sgn c).cps.all (· < 256) = true := by
  simp [sgn, hc]
theorem split_tl (x : Str) {c : Nat} (hc : c < 256) : (Txt.split x (sgn c)).map tl = spl [c] 0 [] (tl x) :=
  split_spl x (sgn c) (by simp [sgn]) (kind_ok (kind1 hc))
theorem join_split (x : Str) {c : Nat} (hc : c < 256) : Txt.join (sgn c) (Txt.split x (sgn c)) = x := by
  refine ext_tl ?_
  rw [join_eq, tl_join, split_tl x hc, tl_sgn, joinL_spl, List.nil_append]
theorem split_ne (x : Str) {c : Nat} (hc : c < 256) : Txt.split x (sgn c) ≠ [] := by
  intro h
  have e := split_tl x hc
  rw [h] at e
  exact spl_ne c _ _ e.symm
theorem split_free (x : Str) {c : Nat} (hc : c < 256) : ∀ p ∈ Txt.split x (sgn c), c ∉ tl p := fun p hp => by
  have e : tl p ∈ (Txt.split x (sgn c)).map tl := List.mem_map_of_mem hp
  rw [split_tl x hc] at e
  exact spl_free c _ _ (by simp) _ e
theorem split_of_join {c : Nat} (hc : c < 256) {ps : List Str} (hne : ps ≠ []) (h : ∀ p ∈ ps, c ∉ tl p) : Txt.split (Txt.join (sgn c) ps) (sgn c) = ps :=
  split_join (s := c) (S := []) rfl (kind1 hc) hne h
theorem split_len (x : Str) {c : Nat} (hc : c < 256) : ∀ p ∈ Txt.split x (sgn c), p.length ≤ x.length := by
  have key : ∀ (l acc : List Nat), ∀ p ∈ spl [c] 0 acc l, p.length ≤ acc.length + l.length := by
    intro l
    induction l with
    | nil => intro acc p hp; rw [spl_nil] at hp; rw [List.mem_singleton.mp hp]; simp
    | cons d r ih =>
      intro acc p hp
      by_cases h : d = c
      · rw [spl_hit (by rw [pre1]; exact decide_eq_true h)] at hp
        rcases List.mem_cons.mp hp with e | e
        · rw [e]; simp
        · have := ih [] p e
          simp at this ⊢; omega
      · rw [spl_miss (by rw [pre1]; exact decide_eq_false h)] at hp
        have := ih (acc ++ [d]) p hp
        simp at this ⊢; omega
  intro p hp
  have e : tl p ∈ (Txt.split x (sgn c)).map tl := List.mem_map_of_mem hp
  rw [split_tl x hc] at e
  have := key _ _ _ e
  rw [len_tl, len_tl]
  simpa using this

/-! ### numbers -/
def isDig (c : Nat) : Bool := decide (48 ≤ c) && decide (c ≤ 57)
/-- a word that writes an integer from 0 on -/
def isNum (w : Str) : Bool := !(tl w).isEmpty && (tl w).all isDig && (decide (tl w = [48]) || decide ((tl w).head? ≠ some 48))
def numV (w : Str) : Int := ((NumText.digitsVal (tl w) : Nat) : Int)
def numP (w : Str) : Option Int := if isNum w then some (numV w) else none
def natT (i : Int) : Str := Str.ofString (toString i)
theorem isNum_digits {w : Str} (h : isNum w = true) : NumText.AllDigits (tl w) ∧ tl w ≠ [] := by
  unfold isNum at h
  simp only [Bool.and_eq_true, Bool.not_eq_true', List.all_eq_true, isDig, decide_eq_true_eq] at h
  exact ⟨fun c hc => h.1.2 c hc, fun e => by rw [e] at h; simp at h⟩
theorem dv_app (l : List Nat) (c : Nat) : NumText.digitsVal (l ++ [c]) = NumText.digitsVal l * 10 + (c - 48) := by
  unfold NumText.digitsVal
  rw [List.foldl_append]; rfl
theorem dv_cons : ∀ (l : List Nat) (a : Nat), a ≤ l.foldl (fun acc c => acc * 10 + (c - 48)) a
  | [], _ => Nat.le_refl _
  | c :: r, a => Nat.le_trans (by omega : a ≤ a * 10 + (c - 48)) (dv_cons r _)
/-- a canonical word is written back -/
theorem numL_back : ∀ (n : Nat) (l : List Nat), l.length = n → NumText.AllDigits l → l ≠ [] → (l = [48] ∨ l.head? ≠ some 48) → numL (NumText.digitsVal l) = l := by
  intro n
  induction n using Nat.strongRecOn with
  | _ n ih =>
    intro l hl hd hne hz
    rcases List.eq_nil_or_concat l with e | ⟨r, c, e⟩
    · exact absurd e hne
    · rw [List.concat_eq_append] at e
      subst e
      have hc : 48 ≤ c ∧ c ≤ 57 := hd c (by simp)
      cases r with
      | nil =>
        have e : NumText.digitsVal ([] ++ [c]) = c - 48 := by rw [dv_app]; simp [NumText.digitsVal]
        rw [e, numL_lt (by omega)]
        show [48 + (c - 48)] = [c]
        rw [show 48 + (c - 48) = c by omega]
      | cons d r =>
        have hd' : NumText.AllDigits (d :: r) := fun z hz => hd z (List.mem_append_left _ hz)
        have hh : d ≠ 48 := by
          rcases hz with hz | hz
          · simp at hz
          · simpa using hz
        have hdd := hd' d (List.mem_cons_self ..)
        have ihr := ih (d :: r).length (by rw [← hl]; simp) (d :: r) rfl hd' (by simp) (.inr (by simpa using hh))
        have pos : 1 ≤ NumText.digitsVal (d :: r) := by
          have := dv_cons r (d - 48)
          show 1 ≤ (d :: r).foldl (fun acc c => acc * 10 + (c - 48)) 0
          rw [List.foldl_cons]
          have e : 0 * 10 + (d - 48) = d - 48 := by omega
          rw [e]
          omega
        rw [dv_app, numL_step (by omega)]
        have e1 : (NumText.digitsVal (d :: r) * 10 + (c - 48)) / 10 = NumText.digitsVal (d :: r) := by omega
        have e2 : (NumText.digitsVal (d :: r) * 10 + (c - 48)) % 10 = c - 48 := by omega
        rw [e1, e2, ihr, show 48 + (c - 48) = c by omega]
theorem num_back {w : Str} (h : isNum w = true) : natT (numV w) = w := by
  obtain ⟨hd, hne⟩ := isNum_digits h
  refine ext_tl ?_
  show tl (Str.ofString (toString ((NumText.digitsVal (tl w) : Nat) : Int))) = tl w
  rw [tl_num]
  refine numL_back _ (tl w) rfl hd hne ?_
  unfold isNum at h
  simp only [Bool.and_eq_true, Bool.or_eq_true, decide_eq_true_eq] at h
  exact h.2
theorem num_nonneg (w : Str) : 0 ≤ numV w := Int.natCast_nonneg _
theorem tl_natT {i : Int} (h : 0 ≤ i) : tl (natT i) = numL i.toNat := by
  obtain ⟨n, rfl⟩ := Int.eq_ofNat_of_zero_le h
  exact tl_num n
theorem isNum_natT {i : Int} (h : 0 ≤ i) : isNum (natT i) = true := by
  unfold isNum
  rw [tl_natT h]
  have hd := numL_digits i.toNat
  have hne := numL_ne i.toNat
  have h1 : (numL i.toNat).isEmpty = false := by
    cases e : numL i.toNat with
    | nil => exact absurd e hne
    | cons a r => rfl
  have h2 : (numL i.toNat).all isDig = true := List.all_eq_true.mpr fun c hc => by
    have := hd c hc
    simp [isDig, this]
  rw [h1, h2]
  have h3 : ∀ n : Nat, numL n = [48] ∨ (numL n).head? ≠ some 48 := by
    intro n
    induction n using Nat.strongRecOn with
    | _ n ih =>
      by_cases hn : n < 10
      · rw [numL_lt hn]
        by_cases h0 : n = 0
        · left; rw [h0]
        · right; simp; omega
      · right
        rw [numL_step (by omega)]
        have hh : (numL (n / 10)).head? ≠ some 48 := by
          rcases ih (n / 10) (by omega) with z | z
          · have e : n / 10 = 0 := by
              have : numL (n / 10) = numL 0 := by rw [z, numL_lt (by omega)]
              exact numL_inj this
            omega
          · exact z
        cases e : numL (n / 10) with
        | nil => exact absurd e (numL_ne _)
        | cons a r => rw [e] at hh; simpa using hh
  rcases h3 i.toNat with z | z
  · simp [z]
  · simp [z]
theorem numV_natT {i : Int} (h : 0 ≤ i) : numV (natT i) = i := by
  unfold numV
  rw [tl_natT h, numL_val]; omega
theorem numP_natT {i : Int} (h : 0 ≤ i) : numP (natT i) = some i := by
  unfold numP
  rw [if_pos (isNum_natT h), numV_natT h]
theorem natT_inj {i j : Int} (hi : 0 ≤ i) (hj : 0 ≤ j) (h : natT i = natT j) : i = j := by
  have := congrArg numV h
  rwa [numV_natT hi, numV_natT hj] at this
theorem natT_free {i : Int} (h : 0 ≤ i) {c : Nat} (hc : c < 48 ∨ 57 < c) : c ∉ tl (natT i) := by
  rw [tl_natT h]; exact numL_free hc
theorem natT_len {i : Int} (h : 0 ≤ i) (h2 : i < 10000) : (natT i).length ≤ 4 := by
  rw [len_tl, tl_natT h]
  exact numL_len (by omega) (by omega)
theorem natT_pos {i : Int} (h : 0 ≤ i) : natT i ≠ Str.empty := fun e => by
  have : tl (natT i) = [] := by rw [e]; rfl
  rw [tl_natT h] at this
  exact numL_ne _ this

/-! ### stretches -/
abbrev Span := Int × Int
def spanOk (s : Span) : Bool := decide (0 ≤ s.1) && decide (s.1 ≤ 4000) && decide (0 ≤ s.2) && decide (s.2 ≤ 4000) && decide (s.1 ≤ s.2)
theorem spanOk_iff {s : Span} : spanOk s = true ↔ 0 ≤ s.1 ∧ s.1 ≤ s.2 ∧ s.2 ≤ 4000 := by
  simp only [spanOk, Bool.and_eq_true, decide_eq_true_eq]
  constructor
  · rintro ⟨⟨⟨⟨a, b⟩, c⟩, d⟩, e⟩; exact ⟨a, e, d⟩
  · rintro ⟨a, b, c⟩; exact ⟨⟨⟨⟨a, by omega⟩, by omega⟩, c⟩, b⟩
abbrev dash : Str := sgn 45
def spanT (s : Span) : Str := if s.1 = s.2 then natT s.1 else natT s.1 ++ dash ++ natT s.2
def spanP (w : Str) : Option Span :=
  match (Txt.split w dash).map numP with
  | [some a] => if a ≤ 4000 then some (a, a) else none
  | [some a, some b] => if a < b ∧ b ≤ 4000 then some (a, b) else none
  | _ => none
theorem numP_some {w : Str} {a : Int} (h : numP w = some a) : isNum w = true ∧ a = numV w ∧ natT a = w ∧ 0 ≤ a := by
  unfold numP at h
  split at h
  · rename_i hn
    cases h
    exact ⟨hn, rfl, num_back hn, num_nonneg w⟩
  · cases h
theorem join1 (y x : Str) : Txt.join y [x] = x := by rw [join_eq]; rfl
theorem join2 (y a b : Str) : Txt.join y [a, b] = a ++ y ++ b := by
  rw [join_eq]; rfl
theorem spanP_some {w : Str} {s : Span} (h : spanP w = some s) : spanOk s = true ∧ spanT s = w := by
  unfold spanP at h
  have ew := join_split w (c := 45) (by decide)
  cases e : Txt.split w dash with
  | nil => exact absurd e (split_ne w (by decide))
  | cons p r =>
    rw [e] at h ew
    cases r with
    | nil =>
      rw [join1] at ew
      simp only [List.map_cons, List.map_nil] at h
      cases ea : numP p with
      | none => rw [ea] at h; simp at h
      | some a =>
        rw [ea] at h
        simp only at h
        obtain ⟨_, _, hb, h0⟩ := numP_some ea
        split at h
        · rename_i hle
          cases h
          exact ⟨spanOk_iff.mpr ⟨h0, Int.le_refl _, hle⟩, by unfold spanT; rw [if_pos rfl, hb, ew]⟩
        · cases h
    | cons q r =>
      cases r with
      | nil =>
        rw [join2] at ew
        simp only [List.map_cons, List.map_nil] at h
        cases ea : numP p with
        | none => rw [ea] at h; simp at h
        | some a =>
          rw [ea] at h
          cases eb : numP q with
          | none => rw [eb] at h; simp at h
          | some b =>
            rw [eb] at h
            simp only at h
            obtain ⟨_, _, hb, h0⟩ := numP_some ea
            obtain ⟨_, _, hb2, h02⟩ := numP_some eb
            split at h
            · rename_i hle
              cases h
              refine ⟨spanOk_iff.mpr ⟨h0, by omega, hle.2⟩, ?_⟩
              unfold spanT
              rw [if_neg (by show ¬ a = b; omega), hb, hb2, ew]
            · cases h
      | cons z r =>
        simp only [List.map_cons] at h
        split at h
        · rename_i q; simp at q
        · rename_i q; simp at q
        · cases h
theorem spanP_T {s : Span} (h : spanOk s = true) : spanP (spanT s) = some s := by
  obtain ⟨h0, h1, h2⟩ := spanOk_iff.mp h
  obtain ⟨a, b⟩ := s
  dsimp only at h0 h1 h2
  unfold spanP spanT
  dsimp only
  by_cases e : a = b
  · subst e
    rw [if_pos rfl]
    have es : Txt.split (natT a) dash = [natT a] := by
      have := split_of_join (c := 45) (by decide) (ps := [natT a]) (by simp) (fun p hp => by rw [List.mem_singleton.mp hp]; exact natT_free h0 (.inl (by decide)))
      rwa [join1] at this
    rw [es]
    simp only [List.map_cons, List.map_nil, numP_natT h0]
    rw [if_pos h2]
  · rw [if_neg e]
    have es : Txt.split (natT a ++ dash ++ natT b) dash = [natT a, natT b] := by
      have := split_of_join (c := 45) (by decide) (ps := [natT a, natT b]) (by simp) (fun p hp => by
        rcases List.mem_cons.mp hp with z | z
        · rw [z]; exact natT_free h0 (.inl (by decide))
        · rw [List.mem_singleton.mp z]; exact natT_free (by omega) (.inl (by decide)))
      rwa [join2] at this
    rw [es]
    simp only [List.map_cons, List.map_nil, numP_natT h0, numP_natT (show 0 ≤ b by omega)]
    rw [if_pos ⟨by omega, h2⟩]
theorem app_len (x y : Str) : (x ++ y).length = x.length + y.length := Str.length_append x y
theorem spanT_len {s : Span} (h : spanOk s = true) : (spanT s).length ≤ 9 := by
  obtain ⟨h0, h1, h2⟩ := spanOk_iff.mp h
  have l1 := natT_len (i := s.1) h0 (by omega)
  have l2 := natT_len (i := s.2) (by omega) (by omega)
  unfold spanT
  split
  · omega
  · rw [app_len, app_len]
    have : dash.length = 1 := rfl
    omega
theorem spanT_free {s : Span} (h : spanOk s = true) {c : Nat} (hc : c < 45) : c ∉ tl (spanT s) := by
  obtain ⟨h0, h1, h2⟩ := spanOk_iff.mp h
  unfold spanT
  split
  · exact natT_free h0 (.inl (by omega))
  · rw [tl_append, tl_append]
    intro q
    rcases List.mem_append.mp q with q | q
    · rcases List.mem_append.mp q with q | q
      · exact natT_free h0 (.inl (by omega)) q
      · have : c = 45 := List.mem_singleton.mp q
        omega
    · exact natT_free (by omega) (.inl (by omega)) q

/-! ### names, lines -/
def isLow (c : Nat) : Bool := decide (97 ≤ c) && decide (c ≤ 122)
def isTag (w : Str) : Bool := decide (1 ≤ w.length) && decide (w.length ≤ 8) && (tl w).all isLow
theorem isTag_len {w : Str} (h : isTag w = true) : 1 ≤ w.length ∧ w.length ≤ 8 := by
  simp only [isTag, Bool.and_eq_true, decide_eq_true_eq] at h
  exact h.1
theorem isTag_free {w : Str} (h : isTag w = true) {c : Nat} (hc : c < 97) : c ∉ tl w := fun q => by
  simp only [isTag, Bool.and_eq_true, decide_eq_true_eq, List.all_eq_true, isLow] at h
  have := h.2 c q
  omega
theorem isTag_ne {w : Str} (h : isTag w = true) : w ≠ Str.empty := fun e => by
  have := (isTag_len h).1
  rw [e] at this
  exact absurd this (by decide)
theorem isTag_dash {w : Str} (h : isTag w = true) : w ≠ dash := fun e => by
  have := isTag_free h (c := 45) (by decide)
  rw [e] at this
  exact this (List.mem_singleton.mpr rfl)
abbrev Line := Str × Str × Span
abbrev Line.nm (l : Line) : Str := l.1
abbrev Line.pa (l : Line) : Str := l.2.1
abbrev Line.sp (l : Line) : Span := l.2.2
/-- a line behind those of some names -/
def lineOk (names : List Str) (l : Line) : Bool :=
  isTag l.1 && !decide (l.1 ∈ names) && (if names = [] then decide (l.2.1 = Str.empty) else decide (l.2.1 ∈ names)) && spanOk l.2.2
/-- from here on: lines (none: a value that is no line), behind those of some names -/
def okFrom (names : List Str) : List (Option Line) → Bool
  | [] => true
  | none :: _ => false
  | some l :: r => decide (names.length < 10) && lineOk names l && okFrom (names ++ [l.1]) r
def okAll (vs : List (Option Line)) : Bool := !vs.isEmpty && okFrom [] vs
/-- lines that tell areas -/
def Good (ls : List Line) : Prop := okAll (ls.map some) = true
abbrev spc : Str := sgn 32
abbrev nlS : Str := sgn 10
abbrev areaS : Str := Str.ofString "area"
def paT (p : Str) : Str := if p = Str.empty then dash else p
def lineT (l : Line) : Str := areaS ++ spc ++ l.1 ++ spc ++ paT l.2.1 ++ spc ++ spanT l.2.2
def pageT (ls : List Line) : Str := Txt.join nlS (ls.map lineT)
/-- the line that a row tells, whatever stands before it -/
def rowP (row : Str) : Option Line :=
  match Txt.split row spc with
  | [w0, w1, w2, w3] => if w0 = areaS ∧ w2 ≠ Str.empty then (spanP w3).map fun s => (w1, (if w2 = dash then Str.empty else w2), s) else none
  | _ => none
/-- all lines of some values, if they are lines -/
def allSome : List (Option Line) → List Line
  | [] => []
  | some l :: r => l :: allSome r
  | none :: r => allSome r
theorem okFrom_some : ∀ {vs : List (Option Line)} {names : List Str}, okFrom names vs = true → vs = (allSome vs).map some
  | [], _, _ => rfl
  | none :: _, _, h => by simp [okFrom] at h
  | some l :: r, names, h => by
    simp only [okFrom, Bool.and_eq_true] at h
    show some l :: r = some l :: (allSome r).map some
    rw [← okFrom_some h.2]
/-- the lines of a text -/
def toldT (t : Str) : Option (List Line) :=
  if okAll ((Txt.split t nlS).map rowP) = true then some (allSome ((Txt.split t nlS).map rowP)) else none

/-! ### what good lines are like -/
theorem good_split {ls : List Line} (h : Good ls) : ls ≠ [] ∧ okFrom [] (ls.map some) = true := by
  unfold Good okAll at h
  simp only [Bool.and_eq_true, Bool.not_eq_true'] at h
  exact ⟨fun e => by rw [e] at h; simp at h, h.2⟩
theorem okFrom_each : ∀ {ls : List Line} {names : List Str}, okFrom names (ls.map some) = true → ∀ l ∈ ls, isTag l.1 = true ∧ spanOk l.2.2 = true
  | [], _, _, _, hl => absurd hl List.not_mem_nil
  | a :: r, names, h, l, hl => by
    simp only [List.map_cons, okFrom, Bool.and_eq_true, lineOk] at h
    rcases List.mem_cons.mp hl with e | e
    · rw [e]; exact ⟨h.1.2.1.1.1, h.1.2.2⟩
    · exact okFrom_each h.2 l e
theorem okFrom_names : ∀ {ls : List Line} {names : List Str}, okFrom names (ls.map some) = true → (∀ n ∈ names, isTag n = true) → ∀ l ∈ ls, l.2.1 = Str.empty ∨ isTag l.2.1 = true
  | [], _, _, _, _, hl => absurd hl List.not_mem_nil
  | a :: r, names, h, hn, l, hl => by
    simp only [List.map_cons, okFrom, Bool.and_eq_true, lineOk] at h
    rcases List.mem_cons.mp hl with e | e
    · rw [e]
      have hp := h.1.2.1.2
      by_cases he : names = []
      · rw [if_pos he] at hp; exact .inl (of_decide_eq_true hp)
      · rw [if_neg he] at hp; exact .inr (hn _ (of_decide_eq_true hp))
    · refine okFrom_names h.2 (fun n q => ?_) l e
      rcases List.mem_append.mp q with q | q
      · exact hn n q
      · rw [List.mem_singleton.mp q]; exact h.1.2.1.1.1
theorem okFrom_len : ∀ {ls : List Line} {names : List Str}, okFrom names (ls.map some) = true → names.length ≤ 10 → ls.length + names.length ≤ 10
  | [], _, _, hn => by simpa using hn
  | a :: r, names, h, hn => by
    simp only [List.map_cons, okFrom, Bool.and_eq_true, decide_eq_true_eq] at h
    have := okFrom_len h.2 (by simp; omega)
    simp at this ⊢; omega
theorem okFrom_nodup : ∀ {ls : List Line} {names : List Str}, okFrom names (ls.map some) = true → names.Nodup → (names ++ ls.map (·.1)).Nodup
  | [], _, _, hn => by simpa using hn
  | a :: r, names, h, hn => by
    simp only [List.map_cons, okFrom, Bool.and_eq_true, lineOk, Bool.not_eq_true', decide_eq_false_iff_not] at h
    have hm : a.1 ∉ names := h.1.2.1.1.2
    have := okFrom_nodup h.2 (List.nodup_append.mpr ⟨hn, by simp, fun x hx y hy e => hm (by rw [← List.mem_singleton.mp hy, ← e]; exact hx)⟩)
    rw [List.append_assoc] at this
    exact this
theorem good_nodup {ls : List Line} (h : Good ls) : (ls.map (·.1)).Nodup := by
  have := okFrom_nodup (good_split h).2 List.nodup_nil
  simpa using this
theorem good_len {ls : List Line} (h : Good ls) : 1 ≤ ls.length ∧ ls.length ≤ 10 := by
  have h1 := okFrom_len (good_split h).2 (by simp)
  have h2 := (good_split h).1
  constructor
  · cases ls with
    | nil => exact absurd rfl h2
    | cons a r => simp
  · simpa using h1
theorem good_tag {ls : List Line} (h : Good ls) : ∀ l ∈ ls, isTag l.1 = true := fun l hl => (okFrom_each (good_split h).2 l hl).1
theorem good_span {ls : List Line} (h : Good ls) : ∀ l ∈ ls, spanOk l.2.2 = true := fun l hl => (okFrom_each (good_split h).2 l hl).2
theorem good_pa {ls : List Line} (h : Good ls) : ∀ l ∈ ls, l.2.1 = Str.empty ∨ isTag l.2.1 = true := okFrom_names (good_split h).2 (by simp)

/-! ### texts of lines -/
theorem paT_free {p : Str} (h : p = Str.empty ∨ isTag p = true) {c : Nat} (hc : c < 45) : c ∉ tl (paT p) := by
  unfold paT
  split
  · intro q
    have : c = 45 := List.mem_singleton.mp q
    omega
  · rename_i hne
    rcases h with h | h
    · exact absurd h hne
    · exact isTag_free h (by omega)
theorem paT_len {p : Str} (h : p = Str.empty ∨ isTag p = true) : (paT p).length ≤ 8 ∧ 1 ≤ (paT p).length := by
  unfold paT
  split
  · exact ⟨by decide, by decide⟩
  · rename_i hne
    rcases h with h | h
    · exact absurd h hne
    · have := isTag_len h; omega
theorem area_tl : tl areaS = [97, 114, 101, 97] := by decide +kernel
theorem join4 (y a b c d : Str) : Txt.join y [a, b, c, d] = a ++ y ++ b ++ y ++ c ++ y ++ d := by
  rw [join_eq]
  show a ++ y ++ (b ++ y ++ (c ++ y ++ d)) = _
  simp only [app_assoc]
theorem lineT_join (l : Line) : lineT l = Txt.join spc [areaS, l.1, paT l.2.1, spanT l.2.2] := by
  rw [join4]; rfl
theorem lineT_split {l : Line} (h1 : isTag l.1 = true) (h2 : l.2.1 = Str.empty ∨ isTag l.2.1 = true) (h3 : spanOk l.2.2 = true) : Txt.split (lineT l) spc = [areaS, l.1, paT l.2.1, spanT l.2.2] := by
  rw [lineT_join]
  refine split_of_join (by decide) (by simp) fun p hp => ?_
  simp only [List.mem_cons, List.not_mem_nil, or_false] at hp
  rcases hp with e | e | e | e
  · rw [e, area_tl]; decide
  · rw [e]; exact isTag_free h1 (by decide)
  · rw [e]; exact paT_free h2 (by decide)
  · rw [e]; exact spanT_free h3 (by decide)
theorem rowP_T {l : Line} (h1 : isTag l.1 = true) (h2 : l.2.1 = Str.empty ∨ isTag l.2.1 = true) (h3 : spanOk l.2.2 = true) : rowP (lineT l) = some l := by
  unfold rowP
  rw [lineT_split h1 h2 h3]
  dsimp only
  have hn : paT l.2.1 ≠ Str.empty := fun e => by
    have := (paT_len h2).2
    rw [e] at this
    exact absurd this (by decide)
  rw [if_pos ⟨rfl, hn⟩, spanP_T h3]
  obtain ⟨n, p, s⟩ := l
  dsimp only at h1 h2 h3 hn ⊢
  rw [Option.map_some]
  have : (if paT p = dash then Str.empty else paT p) = p := by
    unfold paT
    by_cases e : p = Str.empty
    · rw [if_pos e, if_pos rfl, e]
    · rw [if_neg e]
      rcases h2 with h2 | h2
      · exact absurd h2 e
      · rw [if_neg (isTag_dash h2)]
  rw [this]
theorem rowP_some {row : Str} {l : Line} (h : rowP row = some l) : lineT l = row ∧ spanOk l.2.2 = true := by
  unfold rowP at h
  have ew := join_split row (c := 32) (by decide)
  split at h
  · rename_i w0 w1 w2 w3 e
    rw [e, join4] at ew
    split at h
    · rename_i hc
      cases es : spanP w3 with
      | none => rw [es] at h; cases h
      | some s =>
        rw [es] at h
        cases h
        obtain ⟨ho, ht⟩ := spanP_some es
        refine ⟨?_, ho⟩
        unfold lineT
        dsimp only
        rw [ht]
        have : paT (if w2 = dash then Str.empty else w2) = w2 := by
          unfold paT
          by_cases hd : w2 = dash
          · rw [if_pos hd, if_pos rfl, hd]
          · rw [if_neg hd, if_neg hc.2]
        rw [this, ← hc.1]
        exact ew
    · cases h
  · cases h
theorem lineT_free {l : Line} (h1 : isTag l.1 = true) (h2 : l.2.1 = Str.empty ∨ isTag l.2.1 = true) (h3 : spanOk l.2.2 = true) : (10 : Nat) ∉ tl (lineT l) := by
  unfold lineT
  simp only [tl_append, List.mem_append, not_or]
  refine ⟨⟨⟨⟨⟨⟨?_, ?_⟩, ?_⟩, ?_⟩, ?_⟩, ?_⟩, ?_⟩
  · rw [area_tl]; decide
  · rw [tl_sgn]; decide
  · exact isTag_free h1 (by decide)
  · rw [tl_sgn]; decide
  · exact paT_free h2 (by decide)
  · rw [tl_sgn]; decide
  · exact spanT_free h3 (by decide)
theorem lineT_len {l : Line} (h1 : isTag l.1 = true) (h2 : l.2.1 = Str.empty ∨ isTag l.2.1 = true) (h3 : spanOk l.2.2 = true) : (lineT l).length ≤ 32 := by
  unfold lineT
  simp only [app_len]
  have a1 := (isTag_len h1).2
  have a2 := (paT_len h2).1
  have a3 := spanT_len h3
  have a4 : areaS.length = 4 := by decide +kernel
  have a5 : spc.length = 1 := rfl
  omega
theorem page_split {ls : List Line} (h : Good ls) : Txt.split (pageT ls) nlS = ls.map lineT := by
  unfold pageT
  refine split_of_join (by decide) (fun e => (good_split h).1 (List.map_eq_nil_iff.mp e)) fun p hp => ?_
  obtain ⟨l, hl, rfl⟩ := List.mem_map.mp hp
  exact lineT_free (good_tag h l hl) (good_pa h l hl) (good_span h l hl)
theorem allSome_some : ∀ ls : List Line, allSome (ls.map some) = ls
  | [] => rfl
  | a :: r => by show a :: allSome (r.map some) = a :: r; rw [allSome_some r]
/-- a text of good lines is read back -/
theorem told_page {ls : List Line} (h : Good ls) : toldT (pageT ls) = some ls := by
  have e : (Txt.split (pageT ls) nlS).map rowP = ls.map some := by
    rw [page_split h, List.map_map]
    refine List.map_congr_left fun l hl => ?_
    exact rowP_T (good_tag h l hl) (good_pa h l hl) (good_span h l hl)
  unfold toldT
  rw [e, if_pos (show okAll (ls.map some) = true from h), allSome_some]
/-- what is read is good, and its text is the one that was read -/
theorem told_some {t : Str} {ls : List Line} (h : toldT t = some ls) : Good ls ∧ pageT ls = t ∧ (Txt.split t nlS).map rowP = ls.map some := by
  unfold toldT at h
  split at h
  · rename_i ho
    have e : (Txt.split t nlS).map rowP = ls.map some := by
      cases h
      unfold okAll at ho
      simp only [Bool.and_eq_true] at ho
      exact okFrom_some ho.2
    refine ⟨by unfold Good; rw [← e]; exact ho, ?_, e⟩
    have key : ∀ (rs : List Str) (ls : List Line), rs.map rowP = ls.map some → ls.map lineT = rs := by
      intro rs
      induction rs with
      | nil => intro ls e; cases ls with
        | nil => rfl
        | cons a r => simp at e
      | cons r rs ih => intro ls e; cases ls with
        | nil => simp at e
        | cons a l =>
          simp only [List.map_cons, List.cons.injEq] at e ⊢
          exact ⟨(rowP_some e.1).1, ih l e.2⟩
    unfold pageT
    rw [key _ _ e]
    exact join_split t (by decide)
  · cases h
theorem page_inj {ls ls' : List Line} (h : Good ls) (h' : Good ls') (e : pageT ls = pageT ls') : ls = ls' := by
  have a := told_page h
  rw [e, told_page h'] at a
  exact (Option.some.inj a).symm
theorem joinL_len (c : Nat) : ∀ (ps : List (List Nat)) (m : Nat), (∀ p ∈ ps, p.length ≤ m) → (joinL [c] ps).length ≤ ps.length * (m + 1)
  | [], _, _ => by simp [joinL]
  | [p], m, h => by
    have := h p (by simp)
    show p.length ≤ _
    simp; omega
  | p :: q :: r, m, h => by
    have h1 := h p (by simp)
    have ih := joinL_len c (q :: r) m fun z hz => h z (List.mem_cons_of_mem _ hz)
    show (p ++ ([c] ++ joinL [c] (q :: r))).length ≤ _
    simp only [List.length_append, List.length_cons, List.length_nil] at ih ⊢
    have : (r.length + 1 + 1) * (m + 1) = (r.length + 1) * (m + 1) + (m + 1) := Nat.succ_mul _ _
    omega
theorem page_len {ls : List Line} (h : Good ls) : (pageT ls).length ≤ 330 := by
  unfold pageT
  rw [len_tl, join_eq, tl_join, tl_sgn]
  have e := joinL_len 10 ((ls.map lineT).map tl) 32 (fun p hp => by
    obtain ⟨q, hq, rfl⟩ := List.mem_map.mp hp
    obtain ⟨l, hl, rfl⟩ := List.mem_map.mp hq
    rw [← len_tl]
    exact lineT_len (good_tag h l hl) (good_pa h l hl) (good_span h l hl))
  rw [List.length_map, List.length_map] at e
  have := (good_len h).2
  omega

/-! ### one stretch put otherwise -/
theorem okFrom_set : ∀ {ls : List Line} {names : List Str} {k : Nat} {l : Line} {s : Span}, okFrom names (ls.map some) = true → ls[k]? = some l → spanOk s = true → okFrom names ((ls.set k (l.1, l.2.1, s)).map some) = true
  | [], _, _, _, _, _, h, _ => by simp at h
  | a :: r, names, 0, l, s, h, hk, hs => by
    have e : a = l := by simpa using hk
    subst e
    simp only [List.map_cons, List.set_cons_zero, okFrom, Bool.and_eq_true, lineOk] at h ⊢
    exact ⟨⟨h.1.1, h.1.2.1, hs⟩, h.2⟩
  | a :: r, names, k + 1, l, s, h, hk, hs => by
    simp only [List.map_cons, List.set_cons_succ, okFrom, Bool.and_eq_true] at h ⊢
    exact ⟨h.1, okFrom_set h.2 (by simpa using hk) hs⟩
theorem good_set {ls : List Line} {k : Nat} {l : Line} {s : Span} (h : Good ls) (hk : ls[k]? = some l) (hs : spanOk s = true) : Good (ls.set k (l.1, l.2.1, s)) := by
  have h1 := okFrom_set (good_split h).2 hk hs
  have h2 := (good_split h).1
  unfold Good okAll
  rw [h1, Bool.and_true]
  cases ls with
  | nil => exact absurd rfl h2
  | cons a r => cases k <;> rfl
end K3

/-! The mathematics, 2: texts without long runs of digits. -/
namespace K3
open PySem TL
def NoLongD (m : Nat) (l : List Nat) : Prop := ∀ a s b, l = a ++ s ++ b → s.all isDig = true → s.length ≤ m
theorem nld_mono {m n : Nat} {l : List Nat} (h : NoLongD m l) (k : m ≤ n) : NoLongD n l := fun a s b e d => Nat.le_trans (h a s b e d) k
theorem nld_len {m : Nat} {l : List Nat} (h : l.length ≤ m) : NoLongD m l := fun a s b e _ => by
  rw [e] at h
  simp only [List.length_append] at h
  omega
theorem nld_part {m : Nat} {l a s b : List Nat} (h : NoLongD m l) (e : l = a ++ s ++ b) : NoLongD m s := fun c t d e2 k => by
  refine h (a ++ c) t (d ++ b) ?_ k
  rw [e, e2]
  simp only [List.append_assoc]
theorem nld_all {m : Nat} {l : List Nat} (h : NoLongD m l) (k : l.all isDig = true) : l.length ≤ m := h [] l [] (by simp) k
theorem app_cut {α : Type} : ∀ {x y a s b : List α}, x ++ y = a ++ s ++ b → (∃ a', y = a' ++ s ++ b ∧ a = x ++ a') ∨ (∃ s1 s2, s = s1 ++ s2 ∧ x = a ++ s1 ∧ y = s2 ++ b) ∨ (∃ b', x = a ++ s ++ b' ∧ b = b' ++ y)
  | [], y, a, s, b, h => .inl ⟨a, h, rfl⟩
  | c :: x, y, [], [], b, h => .inr (.inr ⟨c :: x, rfl, h.symm⟩)
  | c :: x, y, [], d :: s, b, h => by
    simp only [List.cons_append, List.nil_append, List.cons.injEq] at h
    obtain ⟨rfl, h⟩ := h
    rcases app_cut (x := x) (y := y) (a := []) (s := s) (b := b) (by simpa using h) with ⟨a', e1, e2⟩ | ⟨s1, s2, e1, e2, e3⟩ | ⟨b', e1, e2⟩
    · have ex : x = [] := (List.append_eq_nil_iff.mp e2.symm).1
      have ea : a' = [] := (List.append_eq_nil_iff.mp e2.symm).2
      subst ex
      subst ea
      exact .inr (.inl ⟨[c], s, rfl, rfl, by simpa using e1⟩)
    · exact .inr (.inl ⟨c :: s1, s2, by rw [e1]; rfl, by simpa using e2, e3⟩)
    · exact .inr (.inr ⟨b', by simpa using e1, e2⟩)
  | c :: x, y, d :: a, s, b, h => by
    simp only [List.cons_append, List.cons.injEq] at h
    obtain ⟨rfl, h⟩ := h
    rcases app_cut (x := x) (y := y) (a := a) (s := s) (b := b) h with ⟨a', e1, e2⟩ | ⟨s1, s2, e1, e2, e3⟩ | ⟨b', e1, e2⟩
    · exact .inl ⟨a', e1, by rw [e2]; rfl⟩
    · exact .inr (.inl ⟨s1, s2, e1, by rw [e2]; rfl, e3⟩)
    · exact .inr (.inr ⟨b', by rw [e1]; rfl, e2⟩)
theorem nld_app {m n : Nat} {x y : List Nat} (hx : NoLongD m x) (hy : NoLongD n y) : NoLongD (m + n) (x ++ y) := fun a s b e k => by
  rcases app_cut e with ⟨a', e1, _⟩ | ⟨s1, s2, e1, e2, e3⟩ | ⟨b', e1, _⟩
  · have := hy _ _ _ e1 k
    omega
  · rw [e1, List.all_append, Bool.and_eq_true] at k
    have h1 := hx a s1 [] (by rw [e2]; simp) k.1
    have h2 := hy [] s2 b (by rw [e3]; simp) k.2
    rw [e1, List.length_append]
    omega
  · have := hx _ _ _ e1 k
    omega
theorem nld_sep {m : Nat} {x y : List Nat} {c : Nat} (hx : NoLongD m x) (hy : NoLongD m y) (hc : isDig c = false) : NoLongD m (x ++ c :: y) := fun a s b e k => by
  rcases app_cut e with ⟨a', e1, _⟩ | ⟨s1, s2, e1, e2, e3⟩ | ⟨b', e1, _⟩
  · cases a' with
    | nil =>
      cases s with
      | nil => exact Nat.zero_le _
      | cons d s =>
        simp only [List.nil_append, List.cons_append, List.cons.injEq] at e1
        rw [← e1.1] at k
        simp [hc] at k
    | cons d a' =>
      simp only [List.cons_append, List.cons.injEq] at e1
      exact hy _ _ _ e1.2 k
  · cases s2 with
    | nil =>
      have := hx a s1 [] (by rw [e2]; simp) (by rw [e1] at k; simpa using k)
      rw [e1]
      simpa using this
    | cons d s2 =>
      simp only [List.cons_append, List.cons.injEq] at e3
      rw [e1, ← e3.1] at k
      simp [hc] at k
  · exact hx _ _ _ e1 k
theorem spl_part (c : Nat) : ∀ (l acc : List Nat), ∀ p ∈ spl [c] 0 acc l, ∃ a b, acc ++ l = a ++ p ++ b
  | [], acc, p, hp => by
    rw [spl_nil] at hp
    rw [List.mem_singleton.mp hp]
    exact ⟨[], [], by simp⟩
  | d :: r, acc, p, hp => by
    by_cases h : d = c
    · rw [spl_hit (by rw [pre1]; exact decide_eq_true h)] at hp
      rcases List.mem_cons.mp hp with e | e
      · rw [e]
        exact ⟨[], d :: r, by simp⟩
      · have e : p ∈ spl [c] 0 [] r := e
        obtain ⟨a, b, q⟩ := spl_part c r [] p e
        refine ⟨acc ++ d :: a, b, ?_⟩
        have q : r = a ++ p ++ b := by simpa using q
        rw [q]
        simp
    · rw [spl_miss (by rw [pre1]; exact decide_eq_false h)] at hp
      have hp : p ∈ spl [c] 0 (acc ++ [d]) r := hp
      obtain ⟨a, b, q⟩ := spl_part c r (acc ++ [d]) p hp
      exact ⟨a, b, by rw [← q]; simp⟩
theorem split_part (x : Str) {c : Nat} (hc : c < 256) : ∀ p ∈ Txt.split x (sgn c), ∃ a b, tl x = a ++ tl p ++ b := fun p hp => by
  have h : tl p ∈ (Txt.split x (sgn c)).map tl := List.mem_map.mpr ⟨p, hp, rfl⟩
  rw [split_tl x hc] at h
  simpa using spl_part c (tl x) [] (tl p) h
/-- a text that can be read: not too long, no long run of digits -/
def TxtOk (x : Str) : Prop := x.length ≤ 3000 ∧ NoLongD 640 (tl x)
theorem TxtOk.part {x p : Str} {c : Nat} (h : TxtOk x) (hc : c < 256) (hp : p ∈ Txt.split x (sgn c)) : TxtOk p := by
  obtain ⟨a, b, e⟩ := split_part x hc p hp
  exact ⟨Nat.le_trans (split_len x hc p hp) h.1, nld_part h.2 e⟩
theorem num_short {x : Str} (h : NoLongD 640 (tl x)) (k : isNum x = true) : x.length ≤ 640 := by
  rw [len_tl]
  refine nld_all h ?_
  unfold isNum at k
  simp only [Bool.and_eq_true] at k
  exact k.1.2
end K3

/-! The mathematics, 3: bent texts. -/
namespace K3
open PySem TL
/-- at most L signs, no run of more than m digits, all signs below 128 -/
def TxT (L m : Nat) (t : Str) : Prop := t.length ≤ L ∧ NoLongD m (tl t) ∧ ∀ c ∈ tl t, c < 128
theorem TxT.mono {L m L' m' : Nat} {t : Str} (h : TxT L m t) (h1 : L ≤ L') (h2 : m ≤ m') : TxT L' m' t := ⟨Nat.le_trans h.1 h1, nld_mono h.2.1 h2, h.2.2⟩
theorem TxT.app {L m L' m' : Nat} {x y : Str} (h : TxT L m x) (k : TxT L' m' y) : TxT (L + L') (m + m') (x ++ y) := by
  refine ⟨?_, ?_, fun c hc => ?_⟩
  · rw [app_len]
    exact Nat.add_le_add h.1 k.1
  · rw [tl_append]
    exact nld_app h.2.1 k.2.1
  · rw [tl_append] at hc
    rcases List.mem_append.mp hc with z | z
    · exact h.2.2 c z
    · exact k.2.2 c z
theorem TxT.part {L m : Nat} {x y : Str} {a b : List Nat} (h : TxT L m x) (e : tl x = a ++ tl y ++ b) : TxT L m y := by
  refine ⟨?_, nld_part h.2.1 e, fun c hc => h.2.2 c (by rw [e]; simp [hc])⟩
  have := h.1
  rw [len_tl, e] at this
  rw [len_tl]
  simp only [List.length_append] at this
  omega
/-- the rows' lengths, each with a line feed -/
def rowS (rows : List Str) : Nat := (rows.map fun r => r.length + 1).sum
theorem rowS_app (a b : List Str) : rowS (a ++ b) = rowS a + rowS b := by
  unfold rowS
  rw [List.map_append, List.sum_append]
theorem rowS_cons (r : Str) (b : List Str) : rowS (r :: b) = r.length + 1 + rowS b := by
  unfold rowS
  rw [List.map_cons, List.sum_cons]
theorem rowS_take (k : Nat) (rows : List Str) : rowS (rows.take k) + rowS (rows.drop k) = rowS rows := by
  rw [← rowS_app, List.take_append_drop]
theorem rowS_rev : ∀ rows : List Str, rowS rows.reverse = rowS rows
  | [] => rfl
  | r :: rows => by
    rw [List.reverse_cons, rowS_app, rowS_cons, rowS_cons, rowS_rev rows]
    unfold rowS
    simp
    omega
theorem joinL_S (c : Nat) : ∀ ps : List (List Nat), ps ≠ [] → (joinL [c] ps).length + 1 = (ps.map fun p => p.length + 1).sum
  | [], h => absurd rfl h
  | [p], _ => by simp [joinL]
  | p :: q :: r, _ => by
    have ih := joinL_S c (q :: r) (by simp)
    show (p ++ ([c] ++ joinL [c] (q :: r))).length + 1 = _
    rw [List.map_cons, List.sum_cons, ← ih]
    simp only [List.length_append, List.length_cons, List.length_nil]
    omega
theorem tlTxt_join (y : Str) (rows : List Str) : tl (Txt.join y rows) = joinL (tl y) (rows.map tl) := by
  rw [join_eq]
  exact TL.tl_join y rows
theorem map_tl_len : ∀ rows : List Str, ((rows.map tl).map fun p => p.length + 1) = rows.map fun r => r.length + 1
  | [] => rfl
  | r :: rows => by
    simp only [List.map_cons, map_tl_len rows, len_tl]
theorem join_S {rows : List Str} (h : rows ≠ []) : (Txt.join nlS rows).length + 1 = rowS rows := by
  rw [len_tl, tlTxt_join]
  have := joinL_S 10 (rows.map tl) (by simpa using h)
  rw [map_tl_len] at this
  exact this
theorem join_le (rows : List Str) : (Txt.join nlS rows).length ≤ rowS rows := by
  by_cases h : rows = []
  · subst h
    exact Nat.zero_le _
  · have := join_S h
    omega
theorem split_S (t : Str) : rowS (Txt.split t nlS) = t.length + 1 := by
  rw [← join_S (split_ne t (by decide)), join_split t (by decide)]
theorem nld_join {m : Nat} : ∀ {ps : List (List Nat)}, (∀ p ∈ ps, NoLongD m p) → NoLongD m (joinL [10] ps)
  | [], _ => nld_len (Nat.zero_le _)
  | [p], h => h p (by simp)
  | p :: q :: r, h => by
    show NoLongD m (p ++ 10 :: joinL [10] (q :: r))
    exact nld_sep (h p (by simp)) (nld_join fun x hx => h x (List.mem_cons_of_mem _ hx)) (by decide)
theorem mem_joinL {c : Nat} : ∀ {ps : List (List Nat)} {x : Nat}, x ∈ joinL [c] ps → x = c ∨ ∃ p ∈ ps, x ∈ p
  | [], x, h => by cases h
  | [p], x, h => .inr ⟨p, by simp, h⟩
  | p :: q :: r, x, h => by
    have h : x ∈ p ++ c :: joinL [c] (q :: r) := h
    rcases List.mem_append.mp h with z | z
    · exact .inr ⟨p, by simp, z⟩
    · rcases List.mem_cons.mp z with z | z
      · exact .inl z
      · rcases mem_joinL (ps := q :: r) z with z | ⟨s, hs, hx⟩
        · exact .inl z
        · exact .inr ⟨s, List.mem_cons_of_mem _ hs, hx⟩
theorem TxT.join {L m : Nat} {rows : List Str} (h : ∀ r ∈ rows, NoLongD m (tl r) ∧ ∀ c ∈ tl r, c < 128) (hl : rowS rows ≤ L) : TxT L m (Txt.join nlS rows) := by
  refine ⟨Nat.le_trans (join_le rows) hl, ?_, fun c hc => ?_⟩
  · rw [tlTxt_join]
    exact nld_join fun p hp => by
      obtain ⟨r, hr, rfl⟩ := List.mem_map.mp hp
      exact (h r hr).1
  · rw [tlTxt_join] at hc
    rcases mem_joinL hc with z | ⟨p, hp, z⟩
    · rw [z]
      decide
    · obtain ⟨r, hr, rfl⟩ := List.mem_map.mp hp
      exact (h r hr).2 c z
theorem TxT.rows {L m : Nat} {t : Str} (h : TxT L m t) : ∀ r ∈ Txt.split t nlS, NoLongD m (tl r) ∧ ∀ c ∈ tl r, c < 128 := fun r hr => by
  obtain ⟨a, b, e⟩ := split_part t (show (10 : Nat) < 256 by decide) r hr
  have := h.part e
  exact ⟨this.2.1, this.2.2⟩
/-! ### upper -/
theorem TxT.upper {L m : Nat} {t : Str} (h : TxT L m t) : TxT L m (Txt.upper t) := by
  have e : tl (Txt.upper t) = (tl t).map PyProof.Rows.up1 := by
    rw [PyProof.Rows.upper_ascii h.2.2]
    simp [tl]
  refine ⟨?_, ?_, fun c hc => ?_⟩
  · rw [len_tl, e, List.length_map, ← len_tl]
    exact h.1
  · rw [e]
    intro a s b q k
    obtain ⟨l1, b', e1, e2, rfl⟩ := List.map_eq_append_iff.mp q
    obtain ⟨a', s', e3, e4, rfl⟩ := List.map_eq_append_iff.mp e2
    rw [List.length_map]
    refine h.2.1 a' s' b' (by rw [e1, e3]) ?_
    rw [List.all_map] at k
    rw [List.all_eq_true] at k ⊢
    intro c hc
    have := k c hc
    simp only [Function.comp_apply, isDig, Bool.and_eq_true, decide_eq_true_eq] at this ⊢
    unfold PyProof.Rows.up1 at this
    by_cases hh : 97 ≤ c ∧ c ≤ 122
    · rw [if_pos hh] at this
      omega
    · rw [if_neg hh] at this
      exact this
  · rw [e] at hc
    obtain ⟨d, hd, rfl⟩ := List.mem_map.mp hc
    have := h.2.2 d hd
    unfold PyProof.Rows.up1
    split <;> omega
/-! ### replace -/
section
variable {y z : List Nat}
open PySem.StrLaws
theorem repl_len (hy : y ≠ []) (hz : z.length ≤ y.length) : ∀ (n : Nat) (l : List Nat), l.length ≤ n → (replL y z l).length ≤ l.length
  | n, [], _ => by rw [replL_nil]; exact Nat.le_refl _
  | 0, _ :: _, h => by simp at h
  | n + 1, c :: r, h => by
    by_cases hc : (c :: r).take y.length = y
    · rw [replL_hit hy hc, List.length_append]
      have hl : y.length ≤ (c :: r).length := by
        have := congrArg List.length hc
        rw [List.length_take] at this
        omega
      have yp : 0 < y.length := List.length_pos_iff.mpr hy
      have ih := repl_len hy hz n ((c :: r).drop y.length) (by rw [List.length_drop]; simp only [List.length_cons] at h ⊢; omega)
      rw [List.length_drop] at ih
      omega
    · rw [replL_miss hc]
      have := repl_len hy hz n r (by simpa using h)
      simp only [List.length_cons]
      omega
theorem repl_mem (hy : y ≠ []) : ∀ (n : Nat) (l : List Nat), l.length ≤ n → ∀ c ∈ replL y z l, c ∈ z ∨ c ∈ l
  | n, [], _, c, hc => by rw [replL_nil] at hc; cases hc
  | 0, _ :: _, h, _, _ => by simp at h
  | n + 1, d :: r, h, c, hcm => by
    have yp : 0 < y.length := List.length_pos_iff.mpr hy
    by_cases hc : (d :: r).take y.length = y
    · rw [replL_hit hy hc] at hcm
      rcases List.mem_append.mp hcm with q | q
      · exact .inl q
      · rcases repl_mem hy n ((d :: r).drop y.length) (by rw [List.length_drop]; simp only [List.length_cons] at h ⊢; omega) c q with w | w
        · exact .inl w
        · exact .inr (List.mem_of_mem_drop w)
    · rw [replL_miss hc] at hcm
      rcases List.mem_cons.mp hcm with q | q
      · exact .inr (by rw [q]; simp)
      · rcases repl_mem hy n r (by simpa using h) c q with w | w
        · exact .inl w
        · exact .inr (List.mem_cons_of_mem _ w)
/-- digits ahead stay digits ahead -/
theorem repl_pre (hy : y ≠ []) (hz : ∀ c ∈ z, isDig c = false) (hz0 : z ≠ []) : ∀ (n : Nat) (l s b : List Nat), l.length ≤ n → replL y z l = s ++ b → s.all isDig = true → ∃ b', l = s ++ b'
  | _, l, [], b, _, _, _ => ⟨l, rfl⟩
  | n, [], d :: s, b, _, e, _ => by rw [replL_nil] at e; cases e
  | 0, _ :: _, _ :: _, _, h, _, _ => by simp at h
  | n + 1, c :: r, d :: s, b, h, e, k => by
    by_cases hc : (c :: r).take y.length = y
    · exfalso
      rw [replL_hit hy hc] at e
      cases z with
      | nil => exact hz0 rfl
      | cons z0 zs =>
        simp only [List.cons_append, List.cons.injEq] at e
        have := hz z0 (by simp)
        rw [e.1] at this
        simp [this] at k
    · rw [replL_miss hc] at e
      simp only [List.cons_append, List.cons.injEq] at e
      simp only [List.all_cons, Bool.and_eq_true] at k
      obtain ⟨b', e2⟩ := repl_pre hy hz hz0 n r s b (by simpa using h) e.2 k.2
      exact ⟨b', by rw [e.1, e2]; rfl⟩
theorem repl_seg (hy : y ≠ []) (hz : ∀ c ∈ z, isDig c = false) (hz0 : z ≠ []) : ∀ (n : Nat) (l a s b : List Nat), l.length ≤ n → replL y z l = a ++ s ++ b → s.all isDig = true → ∃ a' b', l = a' ++ s ++ b'
  | _, l, a, [], b, _, _, _ => ⟨[], l, by simp⟩
  | n, [], a, d :: s, b, _, e, _ => by
    rw [replL_nil] at e
    have := congrArg List.length e
    simp at this
  | 0, _ :: _, _, _ :: _, _, h, _, _ => by simp at h
  | n + 1, c :: r, a, d :: s, b, h, e, k => by
    have yp : 0 < y.length := List.length_pos_iff.mpr hy
    by_cases hc : (c :: r).take y.length = y
    · rw [replL_hit hy hc] at e
      have hr : ∀ a' b', (c :: r).drop y.length = a' ++ (d :: s) ++ b' → ∃ a' b', c :: r = a' ++ (d :: s) ++ b' := fun a' b' q => ⟨(c :: r).take y.length ++ a', b', by
        rw [List.append_assoc, List.append_assoc, ← List.append_assoc a', ← q, List.take_append_drop]⟩
      have hn : ((c :: r).drop y.length).length ≤ n := by
        rw [List.length_drop]
        simp only [List.length_cons] at h ⊢
        omega
      rcases app_cut e with ⟨a', e1, _⟩ | ⟨s1, s2, e1, e2, e3⟩ | ⟨b', e1, _⟩
      · obtain ⟨a2, b2, q⟩ := repl_seg hy hz hz0 n _ a' (d :: s) b hn e1 k
        exact hr a2 b2 q
      · have : s1 = [] := by
          cases s1 with
          | nil => rfl
          | cons x xs =>
            have hx := hz x (by rw [e2]; simp)
            rw [e1] at k
            simp [hx] at k
        subst this
        have e1 : d :: s = s2 := by simpa using e1
        subst e1
        obtain ⟨b2, q⟩ := repl_pre hy hz hz0 n _ (d :: s) b hn e3 k
        exact hr [] b2 (by simpa using q)
      · have hx := hz d (by rw [e1]; simp)
        simp [hx] at k
    · rw [replL_miss hc] at e
      cases a with
      | nil =>
        obtain ⟨b', q⟩ := repl_pre hy hz hz0 (n + 1) (c :: r) (d :: s) b h (by rw [replL_miss hc]; simpa using e) k
        exact ⟨[], b', by simpa using q⟩
      | cons x a =>
        simp only [List.cons_append, List.cons.injEq] at e
        obtain ⟨a', b', q⟩ := repl_seg hy hz hz0 n r a (d :: s) b (by simpa using h) e.2 k
        exact ⟨c :: a', b', by rw [q]; rfl⟩
end
theorem TxT.replace {L m : Nat} {t : Str} (h : TxT L m t) : TxT L m (Txt.replace t (Str.ofString "area") (Str.ofString "row")) := by
  have e : tl (Txt.replace t (Str.ofString "area") (Str.ofString "row")) = StrLaws.replL [97, 114, 101, 97] [114, 111, 119] (tl t) := StrLaws.replace_list (by decide)
  have hz : ∀ c ∈ ([114, 111, 119] : List Nat), isDig c = false := by decide
  refine ⟨?_, ?_, fun c hc => ?_⟩
  · rw [len_tl, e]
    have := repl_len (y := [97, 114, 101, 97]) (z := [114, 111, 119]) (by simp) (by decide) _ (tl t) (Nat.le_refl _)
    rw [← len_tl] at this
    exact Nat.le_trans this h.1
  · rw [e]
    intro a s b q k
    obtain ⟨a', b', q'⟩ := repl_seg (by simp) hz (by simp) _ (tl t) a s b (Nat.le_refl _) q k
    exact h.2.1 a' s b' q' k
  · rw [e] at hc
    rcases repl_mem (by simp) _ (tl t) (Nat.le_refl _) c hc with z | z
    · have : ∀ c ∈ ([114, 111, 119] : List Nat), c < 128 := by decide
      exact this c z
    · exact h.2.2 c z
theorem tag_ascii {w : Str} (h : isTag w = true) : ∀ c ∈ tl w, c < 128 := fun c hc => by
  unfold isTag at h
  simp only [Bool.and_eq_true, List.all_eq_true] at h
  have := h.2 c hc
  simp only [isLow, Bool.and_eq_true, decide_eq_true_eq] at this
  omega
theorem natT_ascii {i : Int} (h : 0 ≤ i) : ∀ c ∈ tl (natT i), c < 128 := fun c hc => by
  by_cases q : c < 128
  · exact q
  · exact absurd hc (natT_free h (.inr (by omega)))
theorem spanT_ascii {s : Span} (h : spanOk s = true) : ∀ c ∈ tl (spanT s), c < 128 := fun c hc => by
  obtain ⟨h0, h1, h2⟩ := spanOk_iff.mp h
  unfold spanT at hc
  split at hc
  · exact natT_ascii h0 c hc
  · rw [tl_append, tl_append] at hc
    rcases List.mem_append.mp hc with q | q
    · rcases List.mem_append.mp q with q | q
      · exact natT_ascii h0 c q
      · have : c = 45 := List.mem_singleton.mp q
        omega
    · exact natT_ascii (by omega) c q
theorem paT_ascii {p : Str} (h : p = Str.empty ∨ isTag p = true) : ∀ c ∈ tl (paT p), c < 128 := fun c hc => by
  unfold paT at hc
  split at hc
  · have : c = 45 := List.mem_singleton.mp hc
    omega
  · rename_i q
    rcases h with h | h
    · exact absurd h q
    · exact tag_ascii h c hc
theorem lineT_ascii {l : Line} (h1 : isTag l.1 = true) (h2 : l.2.1 = Str.empty ∨ isTag l.2.1 = true) (h3 : spanOk l.2.2 = true) : ∀ c ∈ tl (lineT l), c < 128 := fun c hc => by
  have s1 : ∀ c ∈ tl spc, c < 128 := by decide
  have s2 : ∀ c ∈ tl areaS, c < 128 := by rw [area_tl]; decide
  unfold lineT at hc
  simp only [tl_append, List.mem_append] at hc
  rcases hc with (((((q | q) | q) | q) | q) | q) | q
  · exact s2 c q
  · exact s1 c q
  · exact tag_ascii h1 c q
  · exact s1 c q
  · exact paT_ascii h2 c q
  · exact s1 c q
  · exact spanT_ascii h3 c q
/-- a page's text -/
theorem page_txt {ls : List Line} (h : Good ls) : TxT 330 32 (pageT ls) := by
  have h10 := good_len h
  refine TxT.join (L := 330) (m := 32) (rows := ls.map lineT) (fun r hr => ?_) ?_
  · obtain ⟨l, hl, rfl⟩ := List.mem_map.mp hr
    refine ⟨nld_len ?_, lineT_ascii (good_tag h l hl) (good_pa h l hl) (good_span h l hl)⟩
    rw [← len_tl]
    exact lineT_len (good_tag h l hl) (good_pa h l hl) (good_span h l hl)
  · have bound : ∀ (ms : List Line), (∀ l ∈ ms, (lineT l).length ≤ 32) → rowS (ms.map lineT) ≤ ms.length * 33 := by
      intro ms
      induction ms with
      | nil => intro _; exact Nat.zero_le _
      | cons l ms ih =>
        intro hm
        have h1 := hm l (by simp)
        have h2 := ih fun x hx => hm x (List.mem_cons_of_mem _ hx)
        rw [List.map_cons, rowS_cons, List.length_cons, Nat.add_mul]
        omega
    have := bound ls fun l hl => lineT_len (good_tag h l hl) (good_pa h l hl) (good_span h l hl)
    have h2 : ls.length * 33 ≤ 10 * 33 := Nat.mul_le_mul_right _ h10.2
    omega
end K3

/-! Rules of our own, 1: str, len, truth, == and != of an own instance; repr of nested data; calls by keywords alone. -/
namespace K3
open PySem PySem.Spec PyProof.Rows L2

/-! ### data stays where the heap only grows -/
theorem sqT_same {K : PySem.W.Frag} {H H' : Hp} {a : Addr} {xs : List V} (e : Same H H') (h : SqT K H a xs) : SqT K H' a xs := by
  rcases h with (h | ⟨o, h⟩) | h
  · exact .inl (.inl (e _ _ h))
  · exact .inl (.inr ⟨o, e _ _ h⟩)
  · exact .inr h
mutual
theorem dp_same {K : PySem.W.Frag} {H H' : Hp} (e : Same H H') : ∀ {d : PyData} {v : V}, Dp K H v d → Dp K H' v d
  | _, _, .non => .non
  | _, _, .bl b => .bl b
  | _, _, .int i => .int i
  | _, _, .str x => .str x
  | _, _, .lst h a => .lst (e.seq h) (dpAll_same e a)
  | _, _, .tup h a => .tup (sqT_same e h) (dpAll_same e a)
theorem dpAll_same {K : PySem.W.Frag} {H H' : Hp} (e : Same H H') : ∀ {ds : List PyData} {vs : List V}, DpAll K H vs ds → DpAll K H' vs ds
  | _, _, .nil => .nil
  | _, _, .cons h t => .cons (dp_same e h) (dpAll_same e t)
end

section
variable {X : Cx} {CX : CXT} {C g : Addr} {n : Nat} {sp : Sp} {E : XK}
theorem inst_of {pins : List (Addr × Obj)} {σ : L2.St} {H : Hp} {s : Shared} {a dx : Addr} {fs : List (Str × V)} (I : Inv X pins σ H s) (h : H a = some (.ins C dx fs)) : ∃ od, PySem.W.InstAt s.heap a (PySem.W.instObj C dx) C (some od) := by
  obtain ⟨_, O, _⟩ := ins_get I.hok h
  obtain ⟨od, J, _⟩ := O.look
  exact ⟨od, J⟩

/-- str(x), x an instance whose class says __str__ -/
def rStrO (C : Addr) (sp : Sp) (E : XK) : List V → Hp → VK → Prop := fun xs H Q => ∃ a dx fs, xs = [V.ref a] ∧ H a = some (.ins C dx fs) ∧ sp [.ref a] H (fun z H' => ∃ y, z = .str y ∧ Q z H') E
theorem call_strO (hs : PySem.W.findIn X.K (.ref C) "__str__" = some (some (.ref g))) (hf : PySem.W.isFn X.K (.ref g) = true) (F : FnR X.prog X.w X.K X.mg X.base CX n g sp) (hr : Room (n + 2) X.A) (hx : Passes CX X E) :
    CallR X (.type "str") (rStrO C sp E) := by
  rintro pins s σ H xs us Q I r ⟨a, dx, fs, rfl, ha, q⟩
  obtain ⟨u, rfl, ru⟩ := r.one
  cases (show u = Value.ref a from ru)
  obtain ⟨od, J⟩ := inst_of I ha
  have r1 : Room (n + 1) X.A.in1 := Room.in1 hr
  have r2 : Room n X.A.in1.in1 := r1.in1
  have go := SlX.run_at (us := [.ref a]) (ws := [.ref a]) F r2 I.env0.in1.in1 hx I (.cons rfl .nil) q
  refine PySem.W.kso_call r2.units0 I.kIn J hs hf (wpAny_mono (wpAny_call go) ?_ fun _ _ x => x)
  rintro w s' ⟨z, H', I', rz, y, ez, qz⟩
  subst ez
  obtain ⟨t, e⟩ := (show ∃ t, w = Value.str y t from rz)
  cases e
  exact ⟨.str y, H', I', ⟨t, rfl⟩, qz⟩
/-- len(x), x an instance whose class says __len__ -/
def rLenO (C : Addr) (sp : Sp) (E : XK) : List V → Hp → VK → Prop := fun xs H Q => ∃ a dx fs, xs = [V.ref a] ∧ H a = some (.ins C dx fs) ∧ sp [.ref a] H (fun z H' => ∃ i : Int, z = .int i ∧ (0 ≤ i ∧ i < 2 ^ 63) ∧ Q z H') E
theorem call_lenO (hs : PySem.W.findIn X.K (.ref C) "__len__" = some (some (.ref g))) (hf : PySem.W.isFn X.K (.ref g) = true) (F : FnR X.prog X.w X.K X.mg X.base CX n g sp) (hr : Room (n + 1) X.A) (hx : Passes CX X E) :
    CallR X (.builtin "len") (rLenO C sp E) := by
  rintro pins s σ H xs us Q I r ⟨a, dx, fs, rfl, ha, q⟩
  obtain ⟨u, rfl, ru⟩ := r.one
  cases (show u = Value.ref a from ru)
  obtain ⟨od, J⟩ := inst_of I ha
  have r1 : Room n X.A.in1 := Room.in1 hr
  have go := SlX.run_at (us := [.ref a]) (ws := [.ref a]) F r1 I.env0.in1 hx I (.cons rfl .nil) q
  obtain ⟨m, fr⟩ := I.fr
  refine PySem.W.len_K fr I.ok.mod.kin J hs hf (wpAny_mono (wpAny_call go) ?_ fun _ _ x => x)
  rintro w s' ⟨z, H', I', rz, i, ez, hi, qz⟩
  subst ez
  obtain ⟨t, e⟩ := (show ∃ t, w = Value.int i t from rz)
  cases e
  exact ⟨hi, .int i, H', I'.tok _, ⟨_, rfl⟩, qz⟩
/-- an instance as a test, its class says __bool__ -/
def tTruO (C : Addr) (sp : Sp) (E : XK) (ta : TE) : TT := fun σ H Q => ta σ H fun x H1 => ∃ a dx fs, x = V.ref a ∧ H1 a = some (.ins C dx fs) ∧ sp [.ref a] H1 (fun z H' => ∃ b, z = .bl b ∧ Q b H') E
theorem pt_truO {e : Expr} {ta : TE} (hs : PySem.W.findIn X.K (.ref C) "__bool__" = some (some (.ref g))) (hf : PySem.W.isFn X.K (.ref g) = true) (F : FnR X.prog X.w X.K X.mg X.base CX n g sp) (hr : Room n X.A) (hx : Passes CX X E)
    (he : PE X e ta) (hw : ∀ whole, isTrue e X.env whole = (do let v ← whole; standAt e.pos; holding [v] (truthy v)) := by intro _; rfl) : PT X e (tTruO C sp E ta) := by
  refine ⟨fun pins s σ H Q I h => isTrue_plain (thn (he.run pins s σ H _ I h) ?_) (hw _)⟩
  rintro v s1 ⟨x, H1, I1, r1, a, dx, fs, ex, ha, q⟩
  subst ex
  cases (show v = Value.ref a from r1)
  obtain ⟨od, J⟩ := inst_of I1 ha
  obtain ⟨m, fr⟩ := I1.fr
  refine PySem.W.truthy_K fr I1.ok.mod.kin J hs hf (wpAny_mono (wpAny_call (run_fnR (us := [.ref a]) (vs := [.ref a]) F hr hx I1 (.cons rfl .nil) q)) ?_ fun _ _ x => x)
  rintro w s' ⟨z, H', I', rz, b, ez, qz⟩
  subst ez
  cases (show w = Value.bool b from rz)
  exact ⟨H', I', qz⟩
/-- x == y, x an instance whose class says __eq__, y anything whose type is known -/
def rEqO (K : PySem.W.Frag) (C : Addr) (sp : Sp) (E : XK) : R2 := fun x y H Q => ∃ a dx fs t, x = .ref a ∧ H a = some (.ins C dx fs) ∧ TyX K H y t ∧ PySem.W.notFirst K C t = true ∧ sp [x, y] H Q E
theorem op_eqO (hs : PySem.W.findIn X.K (.ref C) "__eq__" = some (some (.ref g))) (hf : PySem.W.isFn X.K (.ref g) = true) (F : FnR X.prog X.w X.K X.mg X.base CX n g sp) (hr : Room n X.A) (hx : Passes CX X E) :
    OpR X (compareOp .Eq) (rEqO X.K C sp E) := by
  rintro pins s σ H x y v u Q I rx ry ⟨a, dx, fs, t, rfl, ha, ty, hn, q⟩
  cases (show v = Value.ref a from rx)
  obtain ⟨od, J⟩ := inst_of I ha
  obtain ⟨P, Z, p, _⟩ := kit_of I ry ty
  obtain ⟨m, fr⟩ := I.fr
  show wpAny _ _ (richCompare .Eq (.ref a) u) _ _ _
  refine PySem.W.cmp_K (op := .Eq) (tb := t) hr.units0 fr I.ok.mod.kin J (Z.ty _ _ I.kIn p) hn hs hf (wpAny_mono (wpAny_call (run_fnR (us := [.ref a, u]) (vs := [.ref a, y]) F hr hx I (.cons rfl (.cons ry .nil)) q)) ?_ fun _ _ x => x)
  rintro w s' ⟨z, H', I', rz, qz⟩
  exact SlX.cmpback rz ⟨z, H', I', rz, qz⟩
end

/-! ### != by an own __eq__ -/
section
variable {prog : Program} {w : World} {A : Around} {E : Value → Shared → Prop} {s : Shared} {K : PySem.W.Frag} {x C : Addr} {ox : Obj} {od : Option Obj} {b tb : Value}
theorem ifBound_B {M : Model} {T id : String} {name : Str} {args : List Value} {Q : Option Value → Shared → Prop} (X : K.In s.heap) (I : PySem.W.InstAt s.heap x ox C od) (hs : PySem.W.findIn K (.ref C) name = some (some (.builtin id))) (S : Slot T name id)
    (h : wpAny M A (call (.builtin id) (.ref x :: args)) (fun v => Q (some v)) E s) : wpAny M A (callSpecialIfBound? (.ref x) name args) Q E s := by
  simp only [callSpecialIfBound?, bindSpecialIfBound?]
  refine wpAny_holding (wpAny_bind (wpAny_bind (wpAny_bind (I.type.here ((PySem.W.looks_findIn X hs).here ?_)))))
  simp only [S.bind]
  have z : wpAny M A (call (.builtin id) ([.ref x] ++ args) >>= fun v => pure (some v)) Q E s := wpAny_bind (wpAny_mono h (fun _ _ y => wpAny_pure y) fun _ _ y => y)
  refine wpAny_bind (wpAny_askSetting (wpAny_ite ?_))
  split
  · exact wpAny_bind (wpAny_pure (wpAny_pure (by exact z)))
  · exact wpAny_tryCatch (wpAny_bind (wpAny_pure (wpAny_pure (by exact z))))
theorem ne_tree {f : Addr} {Q : Fin → Shared → Prop} (hu : A.units < cLine) (X : K.In s.heap) (I : PySem.W.InstAt s.heap x ox C od) (he : PySem.W.findIn K (.ref C) "__eq__" = some (some (.ref f))) (hf : PySem.W.isFn K (.ref f) = true)
    (h : wpAny (model prog w) A (call (.ref f) [.ref x, b]) (fun v s' => ∃ k, v = .bool k ∧ Q (.done (.ret (.bool (!k)))) s') E s) : wpAny (model prog w) A (Builtin.«object.__ne__» ⟨[.ref x, b], []⟩) Q E s := by
  obtain ⟨hp, g, d, t, os⟩ := s
  unfold Builtin.«object.__ne__»
  repeat (first
    | with_reducible refine wpAny_cRoomFor hu ?_
    | (refine wpAny_bind (m := callSpecialIfBound? (.ref x) (Str.ofString "__eq__") [b]) (PySem.W.ifBound_K X I he hf (wpAny_mono h (fun r s' hr => by
          obtain ⟨k, rfl, hq⟩ := hr
          repeat (first | exact hq | exact wpAny_pure hq | exact wpAny_truthy_bool hq | (refine wpAny_bind (m := truthy (.bool _)) (wpAny_truthy_bool ?_)) | wp_step)) fun _ _ e => e)))
    | wp_step)
theorem try_ne {f : Addr} {Q : Option Value → Shared → Prop} (hu : A.units + 1 < cLine) (X : K.In s.heap) (I : PySem.W.InstAt s.heap x ox C od) (hn : PySem.W.findIn K (.ref C) "__ne__" = some (some (.builtin "object.__ne__"))) (hm : PySem.W.mroIn K C (.type "object") = some true)
    (he : PySem.W.findIn K (.ref C) "__eq__" = some (some (.ref f))) (hf : PySem.W.isFn K (.ref f) = true) (h : wpAny (model prog w) A.in1 (call (.ref f) [.ref x, b]) (fun v s' => ∃ k, v = .bool k ∧ Q (some (.bool (!k))) s') E s) :
    wpAny (model prog w) A (tryCompare (.ref x) "__ne__" b) Q E s := by
  have sub : PySem.W.Looks (model prog w) s.heap (isInstance (.ref x) (.type "object")) true := I.type.andThen (PySem.W.looks_mroIn X hm)
  simp only [tryCompare]
  refine wpAny_bind (ifBound_B X I hn F.cmp_object.ne (wpAny_call (codeAny_call_builtin F.cmp_object.ne.plain F.cmpEntry_ne (PySem.W.check_slot F.cmpKind_ne F.cmpSplit_ne sub (F.cmpArgs_ne _ _) (ne_tree (A := A.in1) hu X I he hf (wpAny_mono h ?_ fun _ _ e => e))))))
  rintro v s' ⟨k, rfl, hq⟩
  first | exact ⟨k, rfl, wpAny_pure hq⟩ | exact ⟨k, rfl, wpAny_pure (wpAny_pure hq)⟩ | exact ⟨k, rfl, hq⟩ | exact ⟨k, rfl, _, rfl, wpAny_pure hq⟩
theorem rich_ne {f : Addr} {Q : Value → Shared → Prop} (hu : A.units + 1 < cLine) (X : K.In s.heap) (I : PySem.W.InstAt s.heap x ox C od) (hb : PySem.W.Looks (model prog w) s.heap (typeOf b) tb) (hnf : PySem.W.notFirst K C tb = true)
    (hn : PySem.W.findIn K (.ref C) "__ne__" = some (some (.builtin "object.__ne__"))) (hm : PySem.W.mroIn K C (.type "object") = some true)
    (he : PySem.W.findIn K (.ref C) "__eq__" = some (some (.ref f))) (hf : PySem.W.isFn K (.ref f) = true) (h : wpAny (model prog w) A.in1 (call (.ref f) [.ref x, b]) (fun v s' => ∃ k, v = .bool k ∧ Q (.bool (!k)) s') E s) :
    wpAny (model prog w) A (richCompare .NotEq (.ref x) b) Q E s := by
  have one : wpAny (model prog w) A (tryCompare (.ref x) "__ne__" b) (fun r s' => ∃ v, r = some v ∧ Q v s') E s :=
    try_ne hu X I hn hm he hf (wpAny_mono h (fun v s' ⟨k, ek, hq⟩ => ⟨k, ek, _, rfl, hq⟩) fun _ _ e => e)
  unfold richCompare
  simp only [oneThing_ref]
  rw [cmpInfo_NotEq]
  dsimp only
  refine wpAny_holding (wpAny_bind (wpAny_cRoomFor (Nat.lt_of_succ_lt hu) ?_))
  refine wpAny_bind (I.type.here (wpAny_bind (hb.here ?_)))
  split
  · rename_i q
    have e : PySem.W.subIn K tb (.ref C) = some false := by
      rcases Bool.or_eq_true_iff.mp hnf with e | e
      · rw [beq_iff_eq.mp e] at q
        simp at q
      · exact beq_iff_eq.mp e
    refine wpAny_bind ((PySem.W.looks_subIn X e).here ?_)
    simp only [Bool.false_eq_true, if_false]
    refine wpAny_bind (wpAny_mono one ?_ fun _ _ e => e)
    rintro r s' ⟨v, rfl, hq⟩
    exact wpAny_pure hq
  · refine wpAny_bind (wpAny_pure ?_)
    simp only [Bool.false_eq_true, if_false]
    refine wpAny_bind (wpAny_mono one ?_ fun _ _ e => e)
    rintro r s' ⟨v, rfl, hq⟩
    exact wpAny_pure hq
end
section
variable {X : Cx} {CX : CXT} {C g : Addr} {n : Nat} {sp : Sp} {E : XK}
/-- x != y -/
def rNeO (K : PySem.W.Frag) (C : Addr) (sp : Sp) (E : XK) : R2 := fun x y H Q => ∃ a dx fs t, x = .ref a ∧ H a = some (.ins C dx fs) ∧ TyX K H y t ∧ PySem.W.notFirst K C t = true ∧ sp [x, y] H (fun z H' => ∃ k, z = .bl k ∧ Q (.bl (!k)) H') E
theorem op_neO (hs : PySem.W.findIn X.K (.ref C) "__eq__" = some (some (.ref g))) (hf : PySem.W.isFn X.K (.ref g) = true) (hn : PySem.W.findIn X.K (.ref C) "__ne__" = some (some (.builtin "object.__ne__"))) (hm : PySem.W.mroIn X.K C (.type "object") = some true)
    (F : FnR X.prog X.w X.K X.mg X.base CX n g sp) (hr : Room (n + 1) X.A) (hx : Passes CX X E) : OpR X (compareOp .NotEq) (rNeO X.K C sp E) := by
  rintro pins s σ H x y v u Q I rx ry ⟨a, dx, fs, t, rfl, ha, ty, hnf, q⟩
  cases (show v = Value.ref a from rx)
  obtain ⟨od, J⟩ := inst_of I ha
  obtain ⟨P, Z, p, _⟩ := kit_of I ry ty
  have r1 : Room n X.A.in1 := Room.in1 hr
  have go := SlX.run_at (us := [.ref a, u]) (ws := [.ref a, y]) F r1 I.env0.in1 hx I (.cons rfl (.cons ry .nil)) q
  show wpAny _ _ (richCompare .NotEq (.ref a) u) _ _ _
  refine rich_ne (tb := t) (hu_of hr) I.kIn J (Z.ty _ _ I.kIn p) hnf hn hm hs hf (wpAny_mono (wpAny_call go) ?_ fun _ _ x => x)
  rintro w s' ⟨z, H', I', rz, k, ez, qz⟩
  subst ez
  cases (show w = Value.bool k from rz)
  exact ⟨k, rfl, .bl (!k), H', I', rfl, qz⟩
end

/-! ### repr of nested data, where nothing is being shown -/
section
variable {X : Cx}
def rReprD (K : PySem.W.Frag) : List V → Hp → VK → Prop := fun xs H Q => ∃ a d, xs = [V.ref a] ∧ Dp K H (.ref a) d ∧ d.showable = true ∧ d.hasDict = false ∧ d.depth ≤ 40 ∧ d.shown.length ≤ sizeLine ∧ Q (.str d.shown) H
theorem call_reprD (hg : X.A.guards = some []) (hu : X.A.units + 64 < cLine) : CallR X (.builtin "repr") (rReprD X.K) := by
  rintro pins s σ H xs us Q I r ⟨a, d, rfl, hd, hs, hn, hdp, hz, q⟩
  obtain ⟨u, rfl, ru⟩ := r.one
  cases (show u = Value.ref a from ru)
  obtain ⟨as, rd⟩ := Dp.reads I d _ _ hd ru
  refine repr_of_reads' rd hs (PyData.noDict_hsm hn) hg (by omega) (fun _ _ e => e) (fun h' u tk k => ?_) hz
  exact ⟨.str d.shown, H, I.kept (t' := tk) k, ⟨u, rfl⟩, q⟩
end

/-! ### o.m(k = v, ..) and C.m(k = v, ..): keywords alone -/
section
variable {X : Cx} {CX : CXT} {k : Nat} {f C p g : Addr} {fd : FuncData} {ps ks : List Str} {sp : Sp} {E : XK} {m : Str} {pos apos : Pos} {o : Expr} {kws : List Keyword} {ta : TE} {tk : TA} {gB : List Value → List Value → List Value} {gV : List V → List V → List V} {pl : Sem Bool}
/-- how the parameters are bound by one positional value (the receiver) and the keywords ks -/
structure KB1 (K : PySem.W.Frag) (fd : FuncData) (ps ks : List Str) (pm : {α : Type} → List α → List α) : Prop where
  to : ∀ (s : Shared) (u : Value) (ws : List Value), K.In s.heap → ws.length = ks.length → BindsTo s fd ⟨[u], ks.zip ws⟩ (ps.zip (u :: pm ws))
  rel : ∀ {zs : List V} {ws : List Value}, Vals zs ws → Vals (pm zs) (pm ws)
theorem run_k1 {pm : {α : Type} → List α → List α} {pins : List (Addr × Obj)} {σ : L2.St} {H : Hp} {s : Shared} {Q : VK} {y : V} {u : Value} {ws : List Value} {zs : List V} (F : FnOk X.prog X.w X.K X.mg X.base CX k f fd ps sp) (hr : Room k X.A) (hb : KB1 X.K fd ps ks pm) (hx : Passes CX X E)
    (I : Inv X pins σ H s) (ry : RelV y u) (rz : Vals zs ws) (hl : ws.length = ks.length) (h : sp (y :: pm zs) H Q E) :
    codeAny (model X.prog X.w) X.A (.call (.ref f) ⟨[u], ks.zip ws⟩) (fun r s' => match r with | .ok (.ret v) => EP X pins σ Q v s' | .ok _ => False | .error e => X.xe e s') s := by
  refine codeAny_mono (F.run X.A X.stack s H ⟨[u], ks.zip ws⟩ (u :: pm ws) (y :: pm zs) Q E hr I.env0 (hb.to s u ws I.kIn hl) (.cons ry (hb.rel rz)) h) ?_
  intro r s' hq
  cases r with
  | error e => exact hx pins σ H s e s' I hq
  | ok fl => cases fl with
    | ret u => exact I.after hq
    | next => exact hq.elim
    | brk => exact hq.elim
    | cont => exact hq.elim
def tMethK1 (C : Addr) (m : Str) (j : Nat) (sp : Sp) (pm : {α : Type} → List α → List α) (E : XK) (ta : TE) (tk : TA) : TE := fun σ H Q => ta σ H fun x H1 => ∃ a dx fs, x = .ref a ∧ H1 a = some (.ins C dx fs) ∧ fs.lookup m = none ∧ tk σ H1 fun zs H2 => zs.length = j ∧ sp (x :: pm zs) H2 Q E
theorem pe_methK1 {pm : {α : Type} → List α → List α} (he : PE X o ta) (c : Cls X.K C) (hm : Meth X.K C m f) (F : FnOk X.prog X.w X.K X.mg X.base CX k f fd ps sp) (hr : Room k X.A) (hb : KB1 X.K fd ps ks pm) (hx : Passes CX X E) (hkw : PK X kws tk)
    (hall : (backToKw pos (keywordEach kws X.env)).all (·.1.isSome) = true := by rfl) (hks : (backToKw pos (keywordEach kws X.env)).filterMap (·.1) = ks := by rfl)
    (hpl : ((backTo pos (starEach [] X.env)).any (·.1) || (backToKw pos (keywordEach kws X.env)).any (·.1.isNone)) = false := by rfl)
    (ht : eval (.Call (.Attribute o m apos) [] kws pos) X.env = (do
      let ov ← eval o X.env
      standAt apos.atName
      let (f, first) ← holding [ov] (getMethod ov m pl)
      callWith pos f first (backTo pos (starEach [] X.env)) (backToKw pos (keywordEach kws X.env))) := by rfl) :
    PE X (.Call (.Attribute o m apos) [] kws pos) (tMethK1 C m ks.length sp pm E ta tk) := by
  refine ⟨fun pins s σ H Q I h => PySem.W.methodCall_KW (pl := pl) (thn (he.run pins s σ H _ I h) ?_) ht⟩
  rintro u s1 ⟨x, H1, I1, rx, a, dx, fs, ex, ea, l, q⟩
  subst ex
  obtain rfl : u = Value.ref a := rx
  refine getmeth_ok I1 ea c hm l (PySem.W.callWith_KW0 (h₀ := X.base) I.ok.mod.kin hm.kp hall (thn (hkw.run pos pins s1 σ H1 _ I1 q) ?_) hpl)
  rintro ws s2 ⟨zs, H2, I2, rz, hl, q2⟩
  refine ⟨I2.kIn, ?_⟩
  rw [hks]
  exact wpAny_call (run_k1 F hr hb hx I2 (y := .ref a) (u := .ref a) rfl rz (rz.length.symm.trans hl) q2)
end
end K3

/-! Rules of our own, 2: an own error over ValueError whose __init__ says super().__init__(x), then self.f = x; made, raised. -/
namespace K3
open PySem PySem.Spec PyProof.Rows L2
section
open PySem.W PySem.Calls PySem.HandSPX
/-- what the written text of such an __init__ is -/
structure InitShape (st : Stmt) (fld : Str) : Prop where
  body : ∃ p0 p1 p2 p3 p4 p5 p6 p7 p8 p9 : Pos, defBody st = [.Expr (.Call (.Attribute (.Call (.Name "super" p0) [] [] p1) "__init__" p2) [.Name fld p3] [] p4) p5, .Assign [.Attribute (.Name "self" p6) fld p7] (.Name fld p8) p9] ∧
    ∀ env : Env, ∃ pl : Sem Bool, eval (.Call (.Attribute (.Call (.Name "super" p0) [] [] p1) "__init__" p2) [.Name fld p3] [] p4) env = (do
      let ov ← attributeBase (.Call (.Name "super" p0) [] [] p1) "__init__" env (eval (.Call (.Name "super" p0) [] [] p1) env)
      standAt p2.atName
      let (f, first) ← holding [ov] (getMethod ov "__init__" pl)
      callWith p4 f first (backTo p4 (starEach [.Name fld p3] env)) [])
  kS : (defScope st).names.lookup ("self" : Str) = some .local
  kF : (defScope st).names.lookup fld = some .local
  kU : (defScope st).names.lookup ("super" : Str) = some .globalImplicit
  kC : (defScope st).names.lookup ("__class__" : Str) = some .free
  kind : (defScope st).kind = .function
  nocell : ∀ x ∈ (defScope st).names, x.2 ≠ .cell
  co : (defScope st).isCoroutine = false
  gen : (defScope st).isGenerator = false
  head : ∃ ar : Arg, ((defArgs st).posonlyargs ++ (defArgs st).args).head? = some ar ∧ ar.arg = ("self" : Str)
  bind : ∀ (qual : Str) (kV doc pm : Value) (an : Option Addr) (cdv ct : Value) (cc : Addr) (u v : Value), bindArgs (ksFn "__init__" qual (defArgs st) (defBody st) (defScope st) .none kV doc pm an cdv ct cc) ⟨[u, v], []⟩ = pure [(("self" : Str), u), (fld, v)]
  ne : ("self" : Str) ≠ fld
  nd : (fld == ("__debug__" : Str)) = false
/-- what the written part says of the class at C and of its __init__ at fI -/
structure ErrC (K : Frag) (prog : Program) (st : Stmt) (qual : Str) (C fI : Addr) (fld : Str) : Prop where
  cls : ∃ nm q N bs bm sn sub ab col dd k0 k1 k2 k3 k5, K.lookup C = some (excClassObj nm q C N bs bm true sn sub ab col dd k0 k1 k2 k3 k5 "ValueError.__new__") ∧ refsVE bm = true
  sa : findIn K (.ref C) "__setattr__" = some (some (.builtin "object.__setattr__"))
  noF : findIn K (.ref C) fld = some none
  iC : findIn K (.ref C) "__init__" = some (some (.ref fI))
  tI : typeIn K (.ref fI) = some (.type "function")
  kC : keepIn K (.ref C) = true
  exC : subIn K (.ref C) (.type "BaseException") = some true
  tyC : typeIn K (.ref C) = some (.type "type")
  opq : nsIn K cStatics "thirdparty.any" = some none
  sup : ks_superIn K C C "__init__" = some (some (.builtin "ValueError.__init__"))
  sV : subIn K (.ref C) (.type "ValueError") = some true
  sC : mroIn K C (.ref C) = some true
  fn : ∃ (oc : Value) (od : Option Addr) (kV doc pm : Value) (an : Option Addr) (cda cc : Addr) (ct : Value) (osl : Array (Option Value)),
    K.lookup fI = some ⟨oc, od, .func (ksFn "__init__" qual (defArgs st) (defBody st) (defScope st) .none kV doc pm an (.ref cda) ct cc), osl⟩ ∧ codeIn K (.ref cda) qual = true ∧
    (∃ (ccl : Value) (cdd : Option Addr) (vs : Array Value) (ccs : Array (Option Value)) (file : Str) (tf : Tok), K.lookup cda = some ⟨ccl, cdd, .fields vs, ccs⟩ ∧ vs[2]? = some (.str file tf) ∧ ((prog.main.file : Str) == file) = true) ∧
    ∃ (cl : Value) (cld : Option Addr) (csl : Array (Option Value)), K.lookup cc = some ⟨cl, cld, .cell (some (.ref C)), csl⟩
  sup0 : (prog.main.scope.names.lookup ("super" : Str)).isSome = false

section
variable {prog : Program} {w : World} {A : Around} {E : Value → Shared → Prop} {h : Heap} {g : Array GenState} {d : Drawn} {t : Nat} {os : OsState} {C : Addr} {nm q : Str} {N : Addr} {bs bm : List Value} {hdct : Bool} {sn : List Str} {sub : List Value} {ab : Bool} {col : Option Bool} {dd : Option Addr} {k0 k1 k2 k3 k5 : Option Value}
/-- the bound ValueError.__init__, called -/
theorem mw_call {u e t0 : Addr} {rest : List Value} {Q : Value → Shared → Prop} (hC : h.get? C = some (excClassObj nm q C N bs bm hdct sn sub ab col dd k0 k1 k2 k3 k5 "ValueError.__new__")) (he : h.get? e = some (excO C t0))
    (hu : h.get? u = some (kxs_mw "ValueError.__init__" e)) (hz : rest.length ≤ sizeLine) (hq : ∀ h' t1, (∀ b o, b ≠ e → h.get? b = some o → h'.get? b = some o) → h'.get? e = some (excO C t1) → Q .none ⟨h', g, d, t, os⟩) :
    wpAny (model prog w) A (call (.ref u) rest) Q E ⟨h, g, d, t, os⟩ := by
  have tests : (Value.type "method-wrapper" == Value.type "method" || Value.type "method-wrapper" == Value.type "builtin_function_or_method" || Value.type "method-wrapper" == Value.type "method-wrapper") = true := by decide
  refine wpAny_call (codeAny_of_tree (show wpAny _ A.in1 (callAny (.ref u) ⟨rest, []⟩) _ _ _ from ?_))
  simp only [callAny]
  refine wpAny_bind (wpAny_load hu ?_)
  simp only [kxs_mw, tests, if_true]
  refine KFB.if_so (by decide) (wpAny_bind (check_bound_init F.excBase_ValueError.toExcCallFacts hC he rfl (wpAny_bind (wpAny_pure (wpAny_pure ⟨plainId_quiet F.excBase_ValueError.init.plain _, codeAny_builtin F.excBase_ValueError.initEntry ?_⟩)))))
  exact exc_init_tree (cls := .ref C) (t0 := t0) (dv := none) (c2 := .none) (c3 := .none) (b4 := .bool false) he hz fun h' k e' _ => hq h' _ k e'
end

theorem inter0 {env : Env} (h : env.scope.kind = .function) : interactive env = false := by
  unfold interactive
  simp [h]
theorem ns_look {m : Str → Option Value} {M : Model} {A : Around} {E : Value → Shared → Prop} {s : Shared} {env : Env} {x : Str} {pos : Pos} {v : Value} {Q : Value → Shared → Prop} (hk : env.scope.kind = .function) (hl : env.kindOf x = some .local) (hn : s.heap.Ns env.locals m) (hv : m x = some v)
    (hd : (x == ("__debug__" : Str)) = false) (h : Q v s) : wpAny M A (eval (.Name x pos) env) Q E s := wpAny_Name (wpAny_loadName_local hk hl hn hv h) hd

/-- what is left of a fresh error at x behind its __init__ -/
structure Inited (h h' : Heap) (x C dx t1 : Addr) (fld : Str) (v : Value) : Prop where
  keep : ∀ b o, b ≠ x → h.get? b = some o → h'.get? b = some o
  obj : h'.get? x = some { cls := .ref C, dict := some dx, data := .fields #[.ref t1, .none, .none, .none, .bool false, .none] }
  dbig : h.objs.size ≤ dx
  dne : dx ≠ x
  ns : h'.Ns1 dx (fun y => if y = fld then some v else none)
/-- a made error -/
structure Made (h h' : Heap) (e C d : Addr) (fld : Str) (v : Value) : Prop where
  keep : ∀ b o, h.get? b = some o → h'.get? b = some o
  new : h.objs.size ≤ e
  obj : ∃ oe vs, h'.get? e = some oe ∧ oe.cls = .ref C ∧ oe.dict = some d ∧ oe.data = .fields vs ∧ vs[1]? = some .none
  dbig : h.objs.size ≤ d
  dne : d ≠ e
  ns : h'.Ns1 d (fun y => if y = fld then some v else none)

section
variable {prog : Program} {w : World} {A : Around} {R : Result → Shared → Prop} {s : Shared} {K : Frag} {mg mb : Str → Option Value} {C fI : Addr} {st : Stmt} {qual fld : Str}
theorem in_but {K : Frag} {h h' : Heap} {x : Addr} (X : K.In h) (hx : K.lookup x = none) (k : ∀ b o, b ≠ x → h.get? b = some o → h'.get? b = some o) : K.In h' := fun a o e => k a o (fun z => by
  rw [z, hx] at e
  cases e) (X a o e)
theorem err_init (S : InitShape st fld) (T : ErrC K prog st qual C fI fld) {x t0 : Addr} {v : Value} (X : K.In s.heap) (hlim : s.heap.NoLimit) (hG : s.heap.Ns mainGlobals mg) (hB : s.heap.Ns builtinsNs mb) (hgs : mg "super" = none) (hbs : mb "super" = some (.type "super"))
    (hx : s.heap.get? x = some (excO C t0)) (hnx : K.lookup x = none) (hroom : A.depth < recursionLimit) (hq : ∀ h' tk dx t1, Inited s.heap h' x C dx t1 fld v → R (.ok (.ret .none)) { s with heap := h', toks := tk }) :
    codeAny (model prog w) A (.call (.ref fI) ⟨[.ref x, v], []⟩) R s := by
  obtain ⟨oc, od, kV, doc, pm, an, cda, cc, ct, osl, ho, hcd, ⟨ccl, cdd, vs, ccs, file, tf, hcode, hvs, hfile⟩, cl, cld, csl, hcell⟩ := T.fn
  obtain ⟨nm, q, N, bs, bm, sn, sub, ab, col, dd, k0, k1, k2, k3, k5, hC, hbm⟩ := T.cls
  obtain ⟨p0, p1, p2, p3, p4, p5, p6, p7, p8, p9, hbody, hev⟩ := S.body
  obtain ⟨ar, har, hsf⟩ := S.head
  have hcl : clsIn K C = some { name := nm, bases := bs, mro := .ref C :: bm, ns := N, qualname := q, hasDict := true, slotNames := sn, subclasses := sub, abstract := ab, collection := col, hasDel := false } := by
    unfold clsIn
    rw [hC] <;> rfl
  have hloc : ∀ y ∈ [(("self" : Str), Value.ref x), (fld, v)], (defScope st).names.lookup y.1 = some .local := fun y hy => by
    rcases List.mem_cons.mp hy with e | e
    · rw [e]
      exact S.kS
    · rw [List.mem_singleton.mp e]
      exact S.kF
  refine ks_codeAny_call_defAt (fd := ksFn "__init__" qual (defArgs st) (defBody st) (defScope st) .none kV doc pm an (.ref cda) ct cc) (body := defBody st) (binds := [("self", .ref x), (fld, v)]) hroom (X _ _ ho) rfl hlim (codeRec_of X hcd) rfl (BindsTo.of_eq (S.bind _ _ _ _ _ _ _ _ _ _)) S.nocell hloc (fun h₁ hns hk₁ => ?_) S.co S.gen S.kind
  show _root_.PySem.wpAt _ (A.deeper (ksEnv qual (defScope st) s.heap.objs.size fI (.ref cda) cc)) (.func (defBody st) (ksEnv qual (defScope st) s.heap.objs.size fI (.ref cda) cc)) (execs (defBody st) (ksEnv qual (defScope st) s.heap.objs.size fI (.ref cda) cc)) _ _ _
  have X₁ : K.In h₁ := X.keeps hk₁
  have hx₁ := hk₁ _ _ hx
  have mS : ([(("self" : Str), Value.ref x), (fld, v)].reverse.lookup ("self" : Str)) = some (.ref x) := by
    have e : (("self" : Str) == fld) = false := beq_false_of_ne S.ne
    simp [List.lookup, e]
  have mF : ([(("self" : Str), Value.ref x), (fld, v)].reverse.lookup fld) = some v := by simp [List.lookup]
  obtain ⟨hp, g, dr, tk, os⟩ := s
  rw [hbody]
  -- super().__init__(fld)
  obtain ⟨pl, hev⟩ := hev (ksEnv qual (defScope st) hp.objs.size fI (.ref cda) cc)
  refine ks_wpAt_execs_cons (ks_wpAt_Expr_any (ks_wpAt_MethodCall (pl := pl) ?_ hev) (hi := inter0 S.kind))
  refine ks_wpAt_super_base (env := ksEnv qual (defScope st) hp.objs.size fI (.ref cda) cc) S.kU S.kC (by decide +kernel) rfl (X₁ _ _ ho) rfl har rfl (X₁ _ _ hcode) rfl hvs hfile T.sup0 ?_
  refine ks_loadName_global S.kind S.kU (loadGlobal_builtin (env := ksEnv qual (defScope st) hp.objs.size fI (.ref cda) cc) (hG.keeps hk₁) hgs (hB.keeps hk₁) hbs ⟨rfl, ?_⟩)
  refine wpAny_loadName_free S.kind S.kC rfl ⟨_, X₁ _ _ hcell, rfl⟩ ?_
  rw [hsf]
  refine wpAny_loadName_local S.kind S.kS hns mS ?_
  refine ks_wpAny_isType_cls (X₁ _ _ hC) rfl ⟨rfl, ?_⟩
  refine ks_wpAny_call_super (X₁ _ _ hC) rfl hx₁ rfl (fun c z => by cases z) (looks_mroIn X₁ T.sC) fun h₂ hso k₂ => ?_
  have X₂ : K.In h₂ := X₁.keeps k₂
  have hx₂ := k₂ _ _ hx₁
  have LT : Looks (model prog w) h₂ (typeOf (.ref x)) (.ref C) := fun A Q E s k z => wpAny_typeOf_ref (k _ _ hx₂) z
  have hsup := T.sup
  unfold ks_superIn at hsup
  rw [hcl] at hsup
  refine kxs_getMethod kxs_ValueError hso (looks_opaque X₂ T.opq) (l₀ := .ref C :: bm) ((looks_clsIn X₂ hcl).andThen .now) rfl X₂ hsup (LT.andThen (looks_subIn X₂ T.sV)) (fun z => ?_) (by decide +kernel) ?_
  · rw [z, hC] at hnx
    cases hnx
  have hu : (h₂.push (kxs_mw "ValueError.__init__" x)).get? h₂.objs.size = some (kxs_mw "ValueError.__init__" x) := Heap.get?_push_size h₂ rfl
  have k₃ : ∀ b o, h₂.get? b = some o → (h₂.push (kxs_mw "ValueError.__init__" x)).get? b = some o := fun b o e => Heap.get?_push_of_some _ e
  refine kxs_callWith (i := "ValueError.__init__") (x := x) (by rfl) (evalArgs_plain (spliced_cons (ns_look S.kind S.kF (hns.keeps fun b o e => k₃ b o (k₂ b o e)) mF S.nd (spliced_nil ⟨hu, ?_⟩))))
  refine mw_call (X₂.keeps k₃ _ _ hC) (k₃ _ _ hx₂) hu (by show 1 ≤ sizeLine; rw [sizeLine_eq]; omega) fun h₄ t1 k₄ hx₄ => ?_
  -- self.fld = fld
  have hnx₀ : ∀ b o, hp.get? b = some o → b ≠ hp.objs.size := fun b o e => Nat.ne_of_lt (Heap.lt_size e)
  have hL : hp.objs.size ≠ x := Ne.symm (hnx₀ _ _ hx)
  have hns₄ : h₄.Ns hp.objs.size fun y => [(("self" : Str), Value.ref x), (fld, v)].reverse.lookup y := by
    obtain ⟨oL, es, ep, e1, r⟩ := hns
    exact ⟨oL, es, ep, k₄ _ _ hL (k₃ _ _ (k₂ _ _ e1)), r⟩
  have X₄ : K.In h₄ := in_but (X₂.keeps k₃) hnx k₄
  refine wpAt_of_wpAny (wpAny_execs_cons (plainObj_wpAny_Assign_Attribute (ns_look S.kind S.kF hns₄ mF S.nd (ns_look S.kind S.kS hns₄ mS (by decide +kernel) ?_)) (by rfl)))
  refine set_plain X₄ (ox := excO C t1) (od := none) ⟨hx₄, rfl, rfl, trivial⟩ T.sa (exc_osa X₄ hx₄ hcl (show refsVE (.ref C :: bm) = true from hbm) rfl T.noF fun h₅ tk₅ dx k₅ dn dne hx₅ hn₅ => wpAny_execs_nil (hq h₅ tk₅ dx t1 ⟨fun b o hb e => k₅ b o hb (k₄ b o hb (k₃ b o (k₂ b o (hk₁ b o e)))), hx₅, ?_, dne, hn₅⟩))
  have z1 : hp.objs.size < h₄.objs.size := hns₄.lt
  exact Nat.le_of_lt (Nat.lt_of_lt_of_le z1 dn)
theorem err_made (S : InitShape st fld) (T : ErrC K prog st qual C fI fld) {v : Value} (X : K.In s.heap) (hlim : s.heap.NoLimit) (hG : s.heap.Ns mainGlobals mg) (hB : s.heap.Ns builtinsNs mb) (hgs : mg "super" = none) (hbs : mb "super" = some (.type "super")) (hroom : A.depth + 1 < recursionLimit)
    (hq : ∀ h' tk e d, Made s.heap h' e C d fld v → R (.ok (.ret (.ref e))) { s with heap := h', toks := tk }) : codeAny (model prog w) A (.call (.ref C) ⟨[v], []⟩) R s := by
  obtain ⟨nm, q, N, bs, bm, sn, sub, ab, col, dd, k0, k1, k2, k3, k5, hC, hbm⟩ := T.cls
  obtain ⟨hp, g, dr, tk, os⟩ := s
  have k : ∀ b o, hp.get? b = some o → ((hp.push (kdv_tup [v])).push (excO C hp.objs.size)).get? b = some o := fun b o e => Heap.get?_push_of_some _ (Heap.get?_push_of_some _ e)
  have hget : ((hp.push (kdv_tup [v])).push (excO C hp.objs.size)).get? (hp.objs.size + 1) = some (excO C hp.objs.size) := by heap_get
  have hnx : K.lookup (hp.objs.size + 1) = none := by
    cases e : K.lookup (hp.objs.size + 1) with
    | none => rfl
    | some o => exact absurd (Nat.lt_of_succ_lt (Heap.lt_size (X _ _ e))) (Nat.lt_irrefl _)
  refine call_own F.excBase_ValueError (fun X => refsVE_contains X bm hbm) (X _ _ hC) (looks_findIn X T.iC) (fun self => bind_fn X self T.tI) (show 1 ≤ sizeLine by rw [sizeLine_eq]; omega) ?_
  refine err_init (s := ⟨(hp.push (kdv_tup [v])).push (excO C hp.objs.size), g, dr, tk, os⟩) S T (X.keeps k) (hlim.keeps k) (hG.keeps k) (hB.keeps k) hgs hbs hget hnx (by show A.depth + 1 < recursionLimit; exact hroom) fun h' tk' dx t1 ⟨k', hx, dn, dne, hns⟩ => ?_
  have z : hp.objs.size + 1 + 1 ≤ dx := by
    have q := dn
    rw [Heap.size_push, Heap.size_push] at q
    exact q
  refine ⟨rfl, hq h' tk' (hp.objs.size + 1) dx ⟨fun b o e => k' b o (Nat.ne_of_lt (Nat.lt_succ_of_lt (Heap.lt_size e))) (k b o e), Nat.le_succ _, ⟨_, _, hx, rfl, rfl, rfl, rfl⟩, Nat.le_trans (Nat.le_trans (Nat.le_succ _) (Nat.le_succ _)) z, dne, hns⟩⟩
end
end

/-! ### X(e) as an exception that is raised -/
theorem relO_one {v : V} {v' : Value} {fld : Str} (r : RelV v v') (f : Str) : RelO (List.lookup f [(fld, v)]) (if f = fld then some v' else none) := by
  by_cases h : f = fld
  · subst h
    rw [if_pos rfl]
    have e : List.lookup f [(f, v)] = some v := by simp [List.lookup]
    rw [e]
    exact r
  · rw [if_neg h]
    have e0 : (f == fld) = false := by simpa using h
    have e : List.lookup f [(fld, v)] = none := by simp [List.lookup, e0]
    rw [e]
    trivial
def tMkE (C : Addr) (fld : Str) (ta : TA) : L2.St → Hp → XK → Prop := fun σ H Q => ta σ H fun vs H1 => ∃ v, vs = [v] ∧ ∀ d, H1 d = none → Q (.ref C) (some d) (upd H1 d (.xd [(fld, v)]))
section
variable {X : Cx} {C fI : Addr} {st : Stmt} {qual fld x : Str} {a : Expr} {ta : TA} {p pos pos2 : Pos} {k : Nat} {W : WX}
theorem pmk_err (S : InitShape st fld) (T : ErrC X.K X.prog st qual C fI fld) (hgs : X.mg "super" = none) (hr : Room k X.A) (hm : X.mg x = some (.ref C)) (ha : PA X [a] ta) (hg : Gl X x) (hdb : (x == ("__debug__" : Str)) = false := by decide)
    (he : starEach (a :: []) X.env = (false, eval a X.env) :: starEach [] X.env := by rfl) (hpl : (backTo pos (starEach [] X.env)).any (·.1) = false := by rfl) : PMk X (.Call (.Name x p) [a] [] pos) (tMkE C fld ta) := by
  intro pins s σ H Q I h
  refine wpAny_Call_Name_kw (ld_glob I hg hm (PySem.W.callWith_K (h₀ := X.base) I.ok.mod.kin T.kC (thn (ha.run pos pins s σ H _ I h) ?_) he hpl) hdb)
  rintro us s1 ⟨vs, H1, I1, r1, v, ev, q1⟩
  subst ev
  obtain ⟨v', rfl, rv⟩ := r1.one
  refine ⟨I1.kIn, ?_⟩
  show wpAny _ _ (call (.ref C) [v']) _ _ _
  obtain ⟨mb, hB, hb⟩ := I1.mod.blt
  have hlim := I1.nolimit
  have hK := I1.kIn
  have hG := I1.mod.glob.keeps I1.bk
  have hB1 := hB.keeps I1.bk
  have hbs : mb "super" = some (.type "super") := (hb _ (by decide +kernel)).trans (by decide +kernel)
  obtain ⟨hp, g, dr, tk, os⟩ := s1
  refine wpAny_call (err_made S T hK hlim hG hB1 hgs hbs (by have := hr.dp; omega) fun h' tk' e d M => ?_)
  show MkP X pins σ Q (.ref e) ⟨h', g, dr, tk', os⟩
  obtain ⟨oe, fv, hoe, hc, hd, hdat, h1⟩ := M.obj
  obtain ⟨G', g1, g2⟩ := restrict h' fun b => decide (b ≠ e)
  have gk : ∀ b, b ≠ e → G'.get? b = h'.get? b := fun b hb => g1 b (decide_eq_true hb)
  have ge : G'.get? e = none := g2 e (by simp)
  have old : ∀ b o, hp.get? b = some o → G'.get? b = some o := fun b o z => (gk b (Nat.ne_of_lt (Nat.lt_of_lt_of_le (Heap.lt_size z) M.new))).trans (M.keep b o z)
  have ob : ObjOk X.prog X.w (upd H1 d (.xd [(fld, v)])) G' d (.xd [(fld, v)]) := ⟨_, M.ns.at (fun o z => (gk d M.dne).trans z), fun f => relO_one rv f⟩
  have J : Inv X pins σ (upd H1 d (.xd [(fld, v)])) ⟨G', g, dr, tk', os⟩ := I1.laid (t' := tk') old M.dbig ob
  refine ⟨e, oe, fv, ⟨G', g, dr, tk', os⟩, _, .ref C, some d, rfl, J, fun b o z => ?_, ge, hoe, ⟨hc, hd⟩, hdat, h1, ?_, rfl, I1.bare, raises_own T.exC T.tyC, q1 d (I1.hok.fresh M.dbig)⟩
  · by_cases hb : b = e
    · have z' : G'.get? b = some o := z
      rw [hb, ge] at z'
      cases z'
    · exact (gk b hb).symm.trans z
  · rw [upd_ne (Ne.symm M.dne)]
    exact I1.hok.fresh M.new
/-- raise X(e) -/
theorem ps_raiseE (hc : X.calm = true) (S : InitShape st fld) (T : ErrC X.K X.prog st qual C fI fld) (hgs : X.mg "super" = none) (hr : Room k X.A) (hm : X.mg x = some (.ref C)) (tk : Takes X W) (ha : PA X [a] ta) (hg : Gl X x) (hdb : (x == ("__debug__" : Str)) = false := by decide)
    (he : starEach (a :: []) X.env = (false, eval a X.env) :: starEach [] X.env := by rfl) (hpl : (backTo pos (starEach [] X.env)).any (·.1) = false := by rfl) :
    PS X (.Raise (some (.Call (.Name x p) [a] [] pos)) none pos2) (fun _ σ H => tMkE C fld ta σ H fun cls d H' => W cls d σ H') := ps_raise hc tk (pmk_err S T hgs hr hm ha hg hdb he hpl)
end
end K3

/-! Rules of our own, 3: except (A, B, C) as e where it hits; isinstance(e, C) of e's own class; a promise that wants nothing shown. -/
namespace K3


open PySem PySem.Spec PyProof.Rows L2
theorem flying_keeps {B h h' : Heap} {l : List Env} {e : Addr} {Z : Obj → Prop} (k : ∀ b o, h.get? b = some o → h'.get? b = some o) (F : HandSPX.FlyingZ B l e Z h) : HandSPX.FlyingZ B l e Z h' := by
  obtain ⟨k1, k2, k3, oe, vs, T, oT, ts, h1, h2, h3, h4, h5, h6, h7, h8, h9⟩ := F
  exact ⟨fun b o q => k _ _ (k1 b o q), k2, Heap.FunFrames.of_keeps (fun b o e _ => ⟨o, k b o e, rfl⟩) k3, oe, vs, T, oT, ts, k _ _ h1, h2, h3, h4, h5, h6, k _ _ h7, h8, h9⟩
/-- the wish of the clause, that it hits -/
def wHit (K : PySem.W.Frag) (cs : List Value) (i : Nat) (ts : Addr → Value → Option Addr → TS) (D : Ends) : WX := fun cls d σ H => PySem.W.exmAny K cls cs = some true ∧
  ∀ a, H a = none → ts a cls d { nx := fun σ' H' => D.nx (σ'.set i none) H', rt := D.rt, bk := fun σ' H' => D.bk (σ'.set i none) H', ct := fun σ' H' => D.ct (σ'.set i none) H' } (σ.set i (some (.ref a))) H
section
variable {X : Cx} {n x1 x2 x3 : Str} {c1 c2 c3 : Value} {i kk : Nat} {body suite : List Stmt} {b₀ : Stmt} {q1 q2 q3 tp pos pos' : Pos} {tb : WX → TS} {ts : Addr → Value → Option Addr → TS}
theorem ps_tryT (hs : X.stack = X.env :: X.outer) (hf : X.env.frame = some X.env.locals) (hN : X.N.Nodup) (hi : X.N[i]? = some n) (hln : X.env.kindOf n = some .local)
    (g1 : Gl X x1) (g2 : Gl X x2) (g3 : Gl X x3) (m1 : X.mg x1 = some c1) (m2 : X.mg x2 = some c2) (m3 : X.mg x3 = some c3)
    (hb : ∀ (W : WX) (pn : List (Addr × Obj)) (xe : Value → Shared → Prop), Takes (X.tr pn xe) W → PassesOwn (model X.prog X.w) X.A X.env xe → PSs (X.tr pn xe) body (tb W))
    (hsu : ∀ (a : Addr) (oe : Obj) (cls : Value) (d : Option Addr) (pn : List (Addr × Obj)), Zc cls d oe → (∃ vs, oe.data = .fields vs) → PSs (X.suite a ((a, oe) :: pn)) (b₀ :: suite) (ts a cls d))
    (d1 : (x1 == ("__debug__" : Str)) = false := by decide) (d2 : (x2 == ("__debug__" : Str)) = false := by decide) (d3 : (x3 == ("__debug__" : Str)) = false := by decide) :
    PS X (.Try body [.ExceptHandler (some (.Tuple [.Name x1 q1, .Name x2 q2, .Name x3 q3] kk tp)) (some n) (b₀ :: suite) pos'] [] [] pos) (fun D σ H => tb (wHit X.K [c1, c2, c3] i ts D) D σ H) := by
  refine ⟨fun pins s σ H D I h => ?_⟩
  have ok := I.ok
  have hfr : X.A.frames = some (X.env :: X.outer) := by
    rw [ok.frames, hs]
  have hloc : Loc X.env.scope n := .inl hln
  refine wpAny_Try_except ?_
  let xe : Value → Shared → Prop := fun e s₁ => wpAny (model X.prog X.w) X.A (noteFrame e X.env) (fun _ s₂ => wpAny (model X.prog X.w) X.A (setFlight e none) (fun _ s₃ =>
    wpAny (model X.prog X.w) X.A (handleBy e X.env [.ExceptHandler (some (.Tuple [.Name x1 q1, .Name x2 q2, .Name x3 q3] kk tp)) (some n) (b₀ :: suite) pos']) (SP X pins D) X.xe s₃) X.xe s₂) X.xe s₁
  have caught : Takes (X.tr (X.pn ++ pins) xe) (wHit X.K [c1, c2, c3] i ts D) := by
    intro u s' xx
    obtain ⟨a, B, sI, pins', σ', H', cls, d, rfl, J', nb, up, sky, na, os, ag, hm, hyes⟩ := xx
    have J : Inv X pins σ' H' sI := J'.ofTry ok
    have sky' : Sky B (X.env :: X.outer) a (Zc cls d) X.env.locals s'.heap := by
      rw [← hs]
      exact sky
    show wpAny (model X.prog X.w) X.A (noteFrame (.ref a) X.env) _ _ _
    refine Sky.land Zc.steady hfr hf sky' fun h3 fl3 up3 => ?_
    have J3 : Inv X pins σ' H' { s' with heap := h3 } := J.landed nb fl3.1 (up.trans up3) os ag
    obtain ⟨oe3, vs3, he3, hz3, hd3⟩ := fl3.there
    have nfr : a ∉ frs (X.env :: X.outer) := fun hmem => by
      obtain ⟨_, o', e', hnf⟩ := fl3.2.2.1.mem hmem
      rw [he3] at e'
      cases e'
      exact hnf _ hd3
    have nL : a ≠ X.env.locals := fun z => nfr (List.mem_filterMap.mpr ⟨X.env, List.mem_cons_self, by rw [hf, z]⟩)
    have nF : a ∉ X.fs := fun hm => by
      obtain ⟨e, he, q⟩ := List.mem_filterMap.mp hm
      exact nfr (List.mem_filterMap.mpr ⟨e, List.mem_cons_of_mem _ he, q⟩)
    have S3 := J3.suite he3 hd3 na nL nF
    refine wpAny_handleBy_cons (codeAny_handlers_test ?_) (fun q => nomatch q)
    refine wpAny_Tuple_spliced ?_
    show wpAny _ _ (spliced ((false, eval (.Name x1 q1) X.env) :: (false, eval (.Name x2 q2) X.env) :: (false, eval (.Name x3 q3) X.env) :: [])) _ _ _
    refine Calls.spliced_cons (ld_glob (X := X.suite a ((a, oe3) :: (X.pn ++ pins))) S3 g1 m1 ?_ d1)
    refine Calls.spliced_cons (ld_glob (X := X.suite a ((a, oe3) :: (X.pn ++ pins))) S3 g2 m2 ?_ d2)
    refine Calls.spliced_cons (ld_glob (X := X.suite a ((a, oe3) :: (X.pn ++ pins))) S3 g3 m3 ?_ d3)
    refine Calls.spliced_nil ⟨by show 3 ≤ sizeLine; rw [sizeLine_eq]; omega, ?_⟩
    have kp : ∀ b o, h3.get? b = some o → (h3.push { cls := .type "tuple", data := .seq [c1, c2, c3].toArray }).get? b = some o := fun b o e => Heap.get?_push_of_some _ e
    have LT : PySem.W.Looks (model X.prog X.w) (h3.push { cls := .type "tuple", data := .seq [c1, c2, c3].toArray }) (typeOf (.ref a)) cls := fun A Q E s k q => wpAny_typeOf_ref (k _ _ (kp _ _ he3)) (by rw [hz3.1]; exact q)
    have hp : (h3.push { cls := .type "tuple", data := .seq [c1, c2, c3].toArray }).get? h3.objs.size = some { cls := .type "tuple", data := .seq [c1, c2, c3].toArray } := Heap.get?_push_size h3 rfl
    have LM := PySem.W.exm_tup3 (M := model X.prog X.w) (J3.kIn.keeps kp) LT hp hm
    refine LM.here ?_
    have fl3' := flying_keeps kp fl3
    have up3' : h3.UpToSlots (h3.push { cls := .type "tuple", data := .seq [c1, c2, c3].toArray }) := Heap.UpToSlots.of_keeps kp
    refine codeAny_handlers_suite_as ?_
    refine HandSPX.lands_againZ fl3' fun h4 fl4 up4 => ?_
    have J4 : Inv X pins σ' H' { s' with heap := h4 } := J.landed nb fl4.1 (((up.trans up3).trans up3').trans up4) os ag
    obtain ⟨oe4, vs4, he4, hz4, hd4⟩ := fl4.there
    have S4 := J4.suite he4 hd4 na nL nF
    refine store_ok (X := X.suite a ((a, oe4) :: (X.pn ++ pins))) (v := .ref a) S4 hN hi hloc rfl (fun s5 S5 => ?_) (.inr hln)
    refine wpAny_mono ((hsu a oe4 cls d (X.pn ++ pins) hz4 ⟨_, hd4⟩).run [] s5 _ H' _ S5 (hyes a na)) (fun f s6 hsp => ?_) (fun _ _ z => False.elim z)
    have end_ : ∀ {σ6 : L2.St} {H6 : Hp} {Q : Shared → Prop}, Inv (X.suite a ((a, oe4) :: (X.pn ++ pins))) [] σ6 H6 s6 → (∀ s7, Inv X pins (σ6.set i none) H6 s7 → Q s7) →
        wpAny (model X.prog X.w) X.A (do bindName X.env n .none; unbindBehindTheSuite X.env n pos') (fun _ s7 => Q s7) X.xe s6 := fun {σ6 H6 Q} S6 hq => gone_ok (S6.unsuite ok) hN hi hln hq
    cases f with
    | ret u =>
      obtain ⟨v6, σ6, H6, S6, r6, q6⟩ := hsp
      exact end_ S6 fun s7 J7 => ⟨_, _, _, J7, r6, q6⟩
    | next =>
      obtain ⟨σ6, H6, S6, q6⟩ := hsp
      exact end_ S6 fun s7 J7 => ⟨_, _, J7, q6⟩
    | brk =>
      obtain ⟨σ6, H6, S6, q6⟩ := hsp
      exact end_ S6 fun s7 J7 => ⟨_, _, J7, q6⟩
    | cont =>
      obtain ⟨σ6, H6, S6, q6⟩ := hsp
      exact end_ S6 fun s7 J7 => ⟨_, _, J7, q6⟩
  refine wpAny_mono ((hb _ (X.pn ++ pins) xe caught PassesOwn.looking).run [] s σ H D (I.toTry _) h) (fun f s1 hsp => ?_) (fun e s1 he => he)
  cases f with
  | ret u =>
    obtain ⟨v, σ', H', J', r, q⟩ := hsp
    exact ⟨v, σ', H', J'.ofTry ok, r, q⟩
  | next =>
    obtain ⟨σ', H', J', q⟩ := hsp
    exact wpAny_execs_nil ⟨σ', H', J'.ofTry ok, q⟩
  | brk =>
    obtain ⟨σ', H', J', q⟩ := hsp
    exact ⟨σ', H', J'.ofTry ok, q⟩
  | cont =>
    obtain ⟨σ', H', J', q⟩ := hsp
    exact ⟨σ', H', J'.ofTry ok, q⟩
end

/-! ### isinstance(x, C), x of the very class C -/
theorem same_ans {K : PySem.W.Frag} {x c : Value} {P : Heap → Prop} (ty : ∀ (M : Model) (h : Heap), K.In h → P h → PySem.W.Looks M h (typeOf x) c) : PySem.Answers (fun s => K.In s.heap ∧ P s.heap) x c true := by
  intro dep tk prog w A R s hs
  obtain ⟨h0, g, d, tt, os⟩ := s
  obtain ⟨⟨X, p⟩, hq⟩ := hs
  have LT := ty (model prog w) h0 X p
  unfold Builtin.«isinstance.nested»
  refine wpAny_bind (LT.at ?_)
  rw [if_pos (beq_self_eq_true c)]
  first
    | exact wpAny_rule (hq tt)
    | exact wpAny_bind (wpAny_rule (hq tt))
    | exact wpAny_bind (wpAny_rule (wpAny_pure (hq tt)))
theorem same_call {prog : Program} {w : World} {A : Around} {E : Value → Shared → Prop} {s : Shared} {Q : Value → Shared → Prop} {K : PySem.W.Frag} {x c : Value} {P : Heap → Prop} (ty : ∀ (M : Model) (h : Heap), K.In h → P h → PySem.W.Looks M h (typeOf x) c)
    (X : K.In s.heap) (p : P s.heap) (hx : x ≠ .builtin "__main__.__loader__#opaque") (h : ∀ tk, Q (.bool true) { s with toks := tk }) : wpAny (model prog w) A (call (.builtin "isinstance") [x, c]) Q E s :=
  call_isinstance (S := fun _ R s => (K.In s.heap ∧ P s.heap) ∧ ∀ tk, R (.ok (.ret (.bool true))) { s with toks := tk })
    (fun prog w A R s hs => isinstance_outer (same_ans ty 0 _ prog w A R s hs) hx) ⟨⟨X, p⟩, h⟩
def rIsS (C a : Addr) (cls : Value) : List V → Hp → VK → Prop := fun xs H Q => xs = [.ref a, .ref C] ∧ cls = .ref C ∧ Q (.bl true) H
theorem call_isS {X : Cx} {a C : Addr} {oe : Obj} {cls : Value} {d : Option Addr} {pn : List (Addr × Obj)} (hz : Zc cls d oe) : CallR (X.suite a ((a, oe) :: pn)) (.builtin "isinstance") (rIsS C a cls) := by
  intro pins s σ H xs us Q I r h
  obtain ⟨rfl, rfl, q⟩ := h
  obtain ⟨u1, u2, rfl, r1, r2⟩ := vals2 r
  cases (show u1 = Value.ref a from r1)
  cases (show u2 = Value.ref C from r2)
  obtain ⟨hget, _⟩ := I.pin (a, oe) (List.mem_append.mpr (.inl List.mem_cons_self))
  exact same_call (K := X.K) (P := fun h => h.get? a = some oe) (fun M h _ p A Q E s k z => wpAny_typeOf_ref (k _ _ p) (by rw [hz.1]; exact z)) I.kIn hget (fun z => nomatch z) fun tk => ⟨.bl true, H, I.kept (t' := tk) fun _ _ z => z, rfl, q⟩
end K3

/-! Rules of our own, 4: enumerate over a tuple. -/
namespace PySem
open Sem (wp)
open PySem.F in
theorem k3_meets_enum {v : Value} {o : Obj} {P : Heap → Prop} (B : Begins v o P) :
    Meets (Builtin.«enumerate.__new__» ⟨[.type "enumerate", v], []⟩) (fun _ R s => P s.heap ∧
      R (.ok (.ret (.ref (s.heap.push o).objs.size))) { s with heap := (s.heap.push o).push { cls := .type "enumerate", data := .fields #[.none, .bool false, .ref s.heap.objs.size, rawInt 0, .none, .none] } }) :=
  .of_wp fun prog w A R s h => by
    obtain ⟨hp, g, d, tk, os⟩ := s
    obtain ⟨hP, h⟩ := h
    have hsub := sub_enumerate
    have goes : ∀ {A' : Around} {E Q : Value → Shared → Prop}, Q (.ref hp.objs.size) ⟨hp.push o, g, d, tk, os⟩ → wpAny (model prog w) A' (pyIter v) Q E ⟨hp, g, d, tk, os⟩ := fun q => B.iter prog w _ _ ⟨hp, g, d, tk, os⟩ _ hP q
    wp_walk using goes
    refine wpAny_stack_any fun st => wpAny_pure ?_
    split
    · rename_i c _ _ _ _ _
      cases (c == Value.type "enumerate")
      · wp_walk using goes
        exact ⟨_, rfl, h⟩
      · wp_walk using goes
        exact ⟨_, rfl, h⟩
    · wp_walk using goes
      exact ⟨_, rfl, h⟩
section
variable {prog : Program} {w : World} {A : Around} {E : Value → Shared → Prop} {s : Shared}
theorem k3_call_enum {v : Value} {o : Obj} {P : Heap → Prop} {Q : Value → Shared → Prop} (B : Begins v o P) (hp : P s.heap)
    (h : ∀ h', IsEnum h' (s.heap.objs.size + 1) s.heap.objs.size 0 .none → h'.get? s.heap.objs.size = some o → (∀ b u, s.heap.get? b = some u → h'.get? b = some u) → Q (.ref (s.heap.objs.size + 1)) { s with heap := h' }) :
    wpAny (model prog w) A (call (.type "enumerate") [v]) Q E s := by
  refine callType_new F.called_enumerate (by decide) (F.typeCall_enumerate_1 _) (F.newCall_enumerate_1 _) (fun obj => F.args_object_init_2 obj _) F.entry_enumerate_new (k3_meets_enum B) ⟨hp, ?_⟩
  have hz : (s.heap.push o).objs.size = s.heap.objs.size + 1 := Heap.size_push ..
  show _ ∧ _
  rw [hz]
  have he : IsEnum ((s.heap.push o).push { cls := .type "enumerate", data := .fields #[.none, .bool false, .ref s.heap.objs.size, rawInt 0, .none, .none] }) (s.heap.objs.size + 1) s.heap.objs.size 0 .none := by
    have q := Heap.get?_push_size (s.heap.push o) (o := { cls := .type "enumerate", data := .fields #[.none, .bool false, .ref s.heap.objs.size, rawInt 0, .none, .none] }) rfl
    rw [hz] at q
    exact q
  exact ⟨⟨_, he, rfl⟩, h _ he (Heap.get?_push_of_some _ (Heap.get?_push_size _ B.free)) fun b u x => Heap.get?_push_of_some _ (Heap.get?_push_of_some _ x)⟩
end
end PySem
namespace K3
open PySem PySem.Spec PyProof.Rows L2
/-- the tuple at a, each item in a new pair with its place -/
def IteT (K : PySem.W.Frag) (a : Addr) : It :=
  ⟨fun i H => ∃ (xs : List V) (x : V), SqT K H a xs ∧ xs[i]? = some x, fun i H v H' => ∃ T x, v = .ref T ∧ H T = none ∧ H' = upd H T (.tup [.int (i : Nat), x]) ∧ ∀ xs, SqT K H a xs → xs[i]? = some x, fun i H => ∃ xs : List V, SqT K H a xs ∧ xs.length = i⟩
theorem tup_apart {h : Heap} {a it : Addr} {items : Array Value} {i : Nat} (p : h.IsTuple a items) (q : h.IsTupleIter it a i) : a ≠ it := fun z => by
  subst z
  obtain ⟨o, ho, hc, _⟩ := p
  obtain ⟨o', ho', hc', _⟩ := q
  rw [ho] at ho'
  cases ho'
  have z := hc.symm.trans hc'
  exact absurd z (by decide)
theorem enum_apart {h : Heap} {a e it : Addr} {items : Array Value} {c : Int} {old : Value} (p : h.IsTuple a items) (q : IsEnum h e it c old) : e ≠ a := fun z => by
  subst z
  obtain ⟨o, ho, hc, _⟩ := p
  have q : h.get? e = some _ := q
  rw [ho] at q
  cases q
  exact absurd (Value.type.inj hc) (by decide)
theorem turn_enumT {P : Program} {w : World} {K : PySem.W.Frag} {elts : List Expr} {kk : Nat} {tpos : Pos} (a e it : Addr) :
    Turn P w K (.Tuple elts kk tpos) (IteT K a) [e, it] e (fun i h => (∃ old, IsEnum h e it ((i : Nat) : Int) old) ∧ h.IsTupleIter it a i ∧ e ≠ it) where
  mem := by simp
  obj := fun i h st b hb => by
    obtain ⟨⟨old, he⟩, ⟨o, ho, hc, hd⟩, _⟩ := st
    rcases (show b = e ∨ b = it by simpa using hb) with z | z
    · subst z
      exact ⟨_, he, fun v q => nomatch q⟩
    · subst z
      exact ⟨o, ho, fun v q => by rw [hd] at q; cases q⟩
  keep := fun i h h' st k => let ⟨⟨old, he⟩, hi, hne⟩ := st; ⟨⟨old, k e (by simp) _ he⟩, hi.at fun o q => k it (by simp) o q, hne⟩
  item := by
    intro X hP hw hK hc i pins s σ H E I hf st hg
    subst hP hw hK
    obtain ⟨⟨old, he⟩, hit, hne⟩ := st
    obtain ⟨xs, x, hq, hx⟩ := hg
    obtain ⟨its, rv, p, hz⟩ := I.tuple hq
    have p : s.heap.IsTuple a its.toArray := p
    obtain ⟨u, hu, ru⟩ := rv.get hx
    have hel : e < s.heap.objs.size := Heap.lt_size he
    have hil : it < s.heap.objs.size := by
      obtain ⟨_, q, _⟩ := hit
      exact Heap.lt_size q
    have hea := enum_apart p he
    have hin : i < its.toArray.size := by
      have hl := (List.getElem?_eq_some_iff.mp hx).1
      have hl2 := rv.length
      rw [List.size_toArray]
      omega
    refine wpAny_pyNext_enum_itemD (Draws.tuple (show X.A.in1.handled = none from I.ok.hd hc) it a (tup_apart p hit) its.toArray) he ⟨hit, p⟩ hin hne (by simp [hne, hea]) fun y h' tk hy ho st' hT hsz hk => ?_
    have ey : y = u := by
      have hy : its.toArray[i]? = some y := hy
      rw [show its.toArray[i]? = its[i]? by simp, hu] at hy
      exact (Option.some.inj hy).symm
    subst ey
    refine ⟨_, rfl, wpAny_letOwnedTupleGo_enum (s := { s with heap := h', toks := tk + 1 }) ho fun h'' he' sb => ?_⟩
    have hT2 : h''.get? s.heap.objs.size = some { cls := .type "tuple", data := .seq #[.int i tk, y] } := (sb.2 _ (Nat.ne_of_gt hel)).trans hT
    have new : ObjOk X.prog X.w (upd H s.heap.objs.size (.tup [.int (i : Nat), x])) h'' s.heap.objs.size (.tup [.int (i : Nat), x]) := ⟨by show 2 ≤ sizeLine; decide, [.int i tk, y], .cons ⟨_, rfl⟩ (.cons ru .nil), ⟨_, hT2, rfl, _, rfl⟩⟩
    have I1 : Inv X pins σ (upd H s.heap.objs.size (.tup [.int (i : Nat), x])) { s with heap := h'', toks := tk + 1 } :=
      I.turnedNew (ch := [e, it]) (fun b ob hb q => (sb.2 b (fun z => hb (by simp [z]))).trans (hk b ob (fun z => hb (by simp [z])) (fun z => hb (by simp [z])) q)) hf (Nat.le_refl _) new
    refine ⟨.ref s.heap.objs.size, _, I1, rfl, ⟨_, x, rfl, I.hok.fresh (Nat.le_refl _), rfl, fun ys hy => ?_⟩, ⟨⟨y, ?_⟩, st'.1.at fun o q => (sb.2 it (Ne.symm hne)).trans q, hne⟩, fun b hb => ?_⟩
    · rw [I.tuple_inj hy hq]
      exact hx
    · have e1 : ((i + 1 : Nat) : Int) = (i : Int) + 1 := by omega
      rw [e1]
      exact he'
    · have hb' : b < s.heap.objs.size := by
        rcases (show b = e ∨ b = it by simpa using hb) with z | z
        · rw [z]
          exact hel
        · rw [z]
          exact hil
      rw [upd_ne (Nat.ne_of_lt hb')]
      exact (hf b hb).1
  done := by
    intro X hP hw hK hc i pins s σ H E I hf st hg
    subst hP hw hK
    obtain ⟨⟨old, he⟩, hit, hne⟩ := st
    obtain ⟨xs, hq, hx⟩ := hg
    obtain ⟨its, rv, p, hz⟩ := I.tuple hq
    obtain ⟨f0, f1, f2, f3, f4, f5⟩ := hf it (by simp)
    have p : s.heap.IsTuple a its.toArray := p
    have hl : its.toArray.size = i := by
      have := rv.length
      rw [List.size_toArray]
      omega
    exact wpAny_pyNext_enum_endD (Draws.tuple (show X.A.in1.handled = none from I.ok.hd hc) it a (tup_apart p hit) its.toArray) he ⟨by rw [hl]; exact hit, p⟩ fun h' eb => ⟨rfl, I.turned (t' := s.toks) (fun b o hb q => eb b o hb q) f0 f1 f3 f4 f5⟩
  self := fun A i s Q E st h => let ⟨⟨_, he⟩, _⟩ := st; wpAny_pyIter_enum he h
def iEnumT (K : PySem.W.Frag) (ta : TA) : TI := fun σ H R => ta σ H fun vs H1 => ∃ a xs, vs = [.ref a] ∧ SqT K H1 a xs ∧ R (IteT K a) H1
theorem pi_enumT {X : Cx} {e : Expr} {ta : TA} {p pos tpos : Pos} {elts : List Expr} {kk : Nat} (hg : Gl X "enumerate") (hm : X.mg "enumerate" = none) (ha : PA X [e] ta) (hs : starEach [e] X.env = [(false, eval e X.env)] := by rfl) :
    PI X (.Tuple elts kk tpos) (.Call (.Name "enumerate" p) [e] [] pos) (iEnumT X.K ta) := by
  refine ⟨fun pins s σ H R I h => ?_⟩
  refine Call_ (ld_blt I hg hm boot_enumerate (PyProof.Rows.callWith_type1 (thn (ha.run pos pins s σ H _ I h) ?_) hs rfl))
  rintro us s1 ⟨vs, H1, I1, r1, a, xs, ex, hq, q⟩
  subst ex
  obtain ⟨u, rfl, r⟩ := r1.one
  cases (show u = Value.ref a from r)
  obtain ⟨its, rv, p', hz⟩ := I1.tuple hq
  have p' : s1.heap.IsTuple a its.toArray := p'
  refine k3_call_enum (begins_tuple a its.toArray) p' fun h' he hit hk => wpAny_pyIter_enum he ?_
  have I2 : Inv X pins σ H1 { s1 with heap := h' } := I1.kept (t' := s1.toks) hk
  refine ⟨s1.heap.objs.size + 1, [s1.heap.objs.size + 1, s1.heap.objs.size], _, _, H1, rfl, I2, turn_enumT a (s1.heap.objs.size + 1) s1.heap.objs.size, ⟨⟨.none, he⟩, ⟨_, hit, rfl, rfl⟩, Nat.succ_ne_self _⟩, fun b hb => ?_, q⟩
  have hle : s1.heap.objs.size ≤ b := by
    rcases (show b = s1.heap.objs.size + 1 ∨ b = s1.heap.objs.size by simpa using hb) with z | z
    · rw [z]
      exact Nat.le_add_right _ _
    · rw [z]
      exact Nat.le_refl _
  exact I1.fpOk hle (I1.hok.fresh hle)
theorem walk_enumT {K : PySem.W.Frag} {a : Addr} {xs : List V} : Walk (IteT K a) xs.length (fun H => SqT K H a xs) (YPair (fun i => some (.int (i : Nat))) (fun i => xs[i]?)) := by
  refine ⟨fun i _ hi q => ⟨xs, xs[i], q, by simp [hi]⟩, fun _ q => ⟨xs, q, rfl⟩, fun i H v H' _ q y => ?_⟩
  obtain ⟨T, x, h1, h2, h3, h4⟩ := y
  exact ⟨T, .int (i : Nat), x, h1, h2, h3, rfl, h4 xs q⟩
end K3

/-! Rules of our own, 5: a tuple that keeps its object's shape (tuple(list)), .index of it. -/
namespace K3
open PySem PySem.Spec PyProof.Rows L2
section
variable {X : Cx}
def rTupF (K : PySem.W.Frag) : List V → Hp → VK → Prop := fun xs H Q => ∃ p ys, xs = [V.ref p] ∧ SqL K H p ys ∧ ∀ l o, o.dict = none → H l = none → Q (.ref l) (upd H l (.frz o (.tup ys)))
theorem call_tuple_fz : CallR X (.type "tuple") (rTupF X.K) := by
  rintro pins s σ H xs us Q I r ⟨p, ys, rfl, hq, q⟩
  obtain ⟨u, rfl, rx⟩ := r.one
  cases (show u = Value.ref p from rx)
  obtain ⟨its, rv, pl, hz⟩ := I.list hq
  have hlen := rv.length
  refine call_tuple_list pl.isList (fun h' kp => ?_) (by simp only [List.size_toArray] <;> omega)
  have I1 : Inv X pins σ H { s with heap := h' } := I.kept (t' := s.toks) kp
  have new : ObjOk X.prog X.w (upd H h'.objs.size (.frz { cls := .type "tuple", data := .seq its.toArray } (.tup ys))) (h'.push { cls := .type "tuple", data := .seq its.toArray }) h'.objs.size (.frz { cls := .type "tuple", data := .seq its.toArray } (.tup ys)) :=
    ⟨Heap.get?_push_size _ rfl, hz, its, rv, IsTup.new _ _⟩
  have I2 : Inv X pins σ (upd H h'.objs.size (.frz { cls := .type "tuple", data := .seq its.toArray } (.tup ys))) { s with heap := h'.push { cls := .type "tuple", data := .seq its.toArray } } :=
    I1.laid (t' := s.toks) (fun b o e => Heap.get?_push_of_some _ e) (Nat.le_refl _) new
  exact ⟨.ref h'.objs.size, _, I2, rfl, q _ _ rfl (I1.hok.fresh (Nat.le_refl _))⟩
def tTidx (to te : TE) : TE := fun σ H Q => to σ H fun x H1 => ∃ p ob, ∃ ys : List Str, x = V.ref p ∧ H1 p = some (.frz ob (.tup (ys.map V.str))) ∧ ob.dict = none ∧ tCons te tNil σ H1 fun vs H2 => ∃ z j, vs = [V.str z] ∧ H2 p = some (.frz ob (.tup (ys.map V.str))) ∧ ys[j]? = some z ∧ (∀ m, m < j → ys[m]? ≠ some z) ∧ Q (.int (j : Nat)) H2
theorem pe_tidx {o e : Expr} {to te : TE} {apos cpos : Pos} (ho : PE X o to) (he : PE X e te) (hbase : attributeBase o "index" X.env (eval o X.env) = eval o X.env := by rfl)
    (hfew : ((backTo cpos (starEach (e :: []) X.env)).all (fun x => !x.1) && (backToKw cpos (keywordEach [] X.env)).all (fun x => x.1.isSome) && decide ((e :: []).length + ([] : List Keyword).length + (if ([] : List Keyword).isEmpty then 0 else 1) < 30)) = true := by rfl)
    (hline : (apos.endLine == cpos.line) = true := by rfl) (hs : starEach (e :: []) X.env = (false, eval e X.env) :: starEach [] X.env := by rfl) (hplain : (backTo cpos (starEach [] X.env)).any (·.1) = false := by rfl) :
    PE X (.Call (.Attribute o "index" apos) [e] [] cpos) (tTidx to te) := by
  refine ⟨fun pins s σ H Q I h => ?_⟩
  refine wpAny_Call_method_late hbase hfew hline rfl (thn (ho.run pins s σ H _ I h) ?_)
  rintro v s1 ⟨x, H1, I1, r1, p, ob, ys, rfl, hp, hd, q1⟩
  cases (show v = Value.ref p from r1)
  have ok : ObjOk X.prog X.w H1 s1.heap p (.frz ob (.tup (ys.map V.str))) := I1.hok p _ hp
  obtain ⟨g0, _, _, _, o2, g1, g2, _⟩ := ok
  rw [g0] at g1
  cases g1
  refine ⟨"tuple", "tuple.index", PySem.F.plainAttrs_tuple, PySem.F.slot_tuple_index, PySem.F.type_tuple_index, ⟨ob, g0, g2⟩, fun a z => ?_, ?_⟩
  · cases z
    exact ⟨ob, g0, hd⟩
  have hA := (pa_cons he (pa_nil (X := X)) hs).run cpos pins s1 σ H1 _ I1 q1
  rw [hs] at hA ⊢
  refine Calls.callWith_builtin (by show (false || (backTo cpos (starEach [] X.env)).any (·.1)) = false; rw [hplain] <;> rfl) (Calls.evalArgs_plain ?_)
  refine thn hA ?_
  rintro us s2 ⟨vs, H2, I2, r2, z, j, rfl, h2, e1, e2, q2⟩
  exact mt_tup_index pins s2 σ H2 (.ref p) [.str z] (.ref p) us Q I2 rfl r2 ⟨p, ys, z, j, rfl, rfl, .inl (.inr ⟨ob, h2⟩), e1, e2, q2⟩
end
end K3

/-! Rules of our own, 6: a test that is a conditional expression. -/
namespace K3
open PySem PySem.Spec PyProof.Rows L2
section
variable {X : Cx} {c a b : Expr} {pos : Pos} {tc ta tb : TT}
def tIfT (tc ta tb : TT) : TT := fun σ H Q => tc σ H fun d H1 => if d = true then ta σ H1 Q else tb σ H1 Q
theorem pt_ifx (hc : PT X c tc) (ha : PT X a ta) (hb : PT X b tb) : PT X (.IfExp c a b pos) (tIfT tc ta tb) := by
  refine ⟨fun pins s σ H Q I h => ?_⟩
  refine isTrue_IfExp (thn (hc.run pins s σ H _ I h) ?_)
  rintro d s1 ⟨H1, I1, q1⟩
  cases d with
  | true => exact ha.run pins s1 σ H1 Q I1 q1
  | false => exact hb.run pins s1 σ H1 Q I1 q1
end
end K3

/-! Rules of our own, 7: list(text); a display whose first item is text + 'c', so that a later .replace of written texts has its tokens. -/
namespace K3
open PySem PySem.Spec PyProof.Rows L2
section
variable {X : Cx}
def rListS : List V → Hp → VK → Prop := fun xs H Q => ∃ z : Str, xs = [V.str z] ∧ z.length ≤ sizeLine ∧ ∀ l, H l = none → Q (.ref l) (upd H l (.lst (z.cps.toList.map fun c => V.str ⟨#[c]⟩)))
theorem vals_signs {z : Str} : ∀ {us : List Value}, us.length = z.cps.toList.length → (∀ (j : Nat) (v : Value), us[j]? = some v → ∃ c u, z.cps.toList[j]? = some c ∧ v = Value.str ⟨#[c]⟩ u) → Vals (z.cps.toList.map fun c => V.str ⟨#[c]⟩) us := by
  intro us
  generalize z.cps.toList = l
  induction us generalizing l with
  | nil =>
    intro hl _
    cases l with
    | nil => exact .nil
    | cons _ _ => simp at hl
  | cons u us ih =>
    intro hl h
    cases l with
    | nil => simp at hl
    | cons c l =>
      obtain ⟨c', t, h1, h2⟩ := h 0 u (by simp)
      have h1 := Option.some.inj (show some c = some c' from by simpa using h1)
      subst h1
      exact .cons ⟨t, h2⟩ (ih l (by simpa using hl) fun j v hj => by
        have := h (j + 1) v (by simpa using hj)
        simpa using this)
theorem call_listS (hc : X.calm = true) : CallR X (.type "list") rListS := by
  rintro pins s σ H xs us Q I r ⟨z, rfl, hz, q⟩
  obtain ⟨u, rfl, t, ru⟩ := r.one
  subst ru
  refine PySem.call_list_str (I.ok.hd hc) z t (fun h' tk acc' c' hk hS hacc => ?_) hz
  have new : ObjOk X.prog X.w (upd H s.heap.objs.size (.lst (z.cps.toList.map fun c => V.str ⟨#[c]⟩))) h' s.heap.objs.size (.lst (z.cps.toList.map fun c => V.str ⟨#[c]⟩)) := by
    refine ⟨by rw [List.length_map]; exact hz, acc'.toList, c', vals_signs (by simpa using hacc.1) (fun j v hj => ?_), by simpa using hS⟩
    obtain ⟨c, w, h1, h2⟩ := hacc.2 j v (by simpa using hj)
    exact ⟨c, w, by simpa using h1, h2⟩
  exact ⟨.ref s.heap.objs.size, _, I.laid (t' := tk) hk (Nat.le_refl _) new, rfl, q _ (I.hok.fresh (Nat.le_refl _))⟩
/-- after it there was a token -/
def PEN (X : Cx) (e : Expr) (t : TE) : Prop := ∀ (pins : List (Addr × Obj)) (s : Shared) (σ : L2.St) (H : Hp) (Q : VK), Inv X pins σ H s → t σ H Q → wpAny (model X.prog X.w) X.A (eval e X.env) (fun v s' => 1 ≤ s'.toks ∧ EP X pins σ Q v s') X.xe s
variable {a e : Expr} {es : List Expr} {ta te : TE} {t : TA} {z : Str} {pos c : Pos} {j : Nat}
theorem pen_addS {r : R2} (ho : OpR X (binaryOp .Add) r) (ha : PE X a ta) : PEN X (.BinOp a .Add (.Constant (.str z) j c) pos) (tOp r ta (tC (.str z))) := by
  intro pins s σ H Q I h
  refine wpAny_BinOp (thn (ha.run pins s σ H _ I h) ?_)
  rintro v s1 ⟨x, H1, I1, r1, q1⟩
  refine Calls.Constant_str ?_
  refine wpAny_mono (PySem.wpAny_toks (ho pins { s1 with toks := s1.toks + 1 } σ H1 x (.str z) v (.str z s1.toks) Q (I1.tok _) r1 ⟨_, rfl⟩ q1)) ?_ fun _ _ x => x.2
  rintro w s2 ⟨hk, q2⟩
  exact ⟨Nat.le_trans (Nat.le_add_left 1 s1.toks) hk, q2⟩
theorem pa_consN (ha : PEN X e te) (hr : PAT X es t) (hs : starEach (e :: es) X.env = (false, eval e X.env) :: starEach es X.env := by rfl) : PA X (e :: es) (tCons te t) := by
  refine ⟨fun pos pins s σ H Q I h => ?_⟩
  rw [hs]
  show wpAny _ _ (spliced ((false, eval e X.env) :: backTo pos (starEach es X.env))) _ _ s
  refine Calls.spliced_cons (thn (ha pins s σ H _ I h) ?_)
  rintro u s1 ⟨hk, x, H1, I1, r1, q1⟩
  refine thn (hr pos pins s1 σ H1 _ hk I1 q1) ?_
  rintro us s2 ⟨xs, H2, I2, r2, q2⟩
  exact ⟨x :: xs, H2, I2, .cons r1 r2, q2⟩
end
end K3

/-! Rules of our own, 8: a promise kept where nothing is being shown (repr wants to know that). -/
namespace K3
open PySem PySem.Spec PyProof.Rows L2
structure FnG (P : Program) (w : World) (K : PySem.W.Frag) (mg : Str → Option Value) (base : Heap) (k : Nat) (f : Addr) (fd : FuncData) (ps : List Str) (sp : Sp) : Prop where
  len : ∀ vs H Q E, sp vs H Q E → vs.length = ps.length
  run : ∀ (A : Around) (outer : List Env) (s : Shared) (H : Hp) (args : Args) (us : List Value) (vs : List V) (Q : VK) (E : XK), Room k A → A.guards = some [] → Env0 P w K mg base A outer s H → BindsTo s fd args (ps.zip us) → Vals vs us → sp vs H Q E →
    codeAny (model P w) A (.call (.ref f) args) (CR CX0 outer P w H s Q E) s
section
variable {P : Program} {w : World} {K : PySem.W.Frag} {mg : Str → Option Value} {base : Heap}
theorem FnG.mono {j k : Nat} {f : Addr} {fd : FuncData} {ps : List Str} {sp : Sp} (F : FnG P w K mg base j f fd ps sp) (h : j ≤ k) : FnG P w K mg base k f fd ps sp := ⟨F.len, fun A outer s H args us vs Q E hr => F.run A outer s H args us vs Q E (hr.mono h)⟩
theorem okG {x qual : Str} {st : Stmt} {f : Addr} {fd : FuncData} {N ps : List Str} {k : Nat} {sp : Sp} (F : Fun K x qual st f fd) (S : FnScope N ps (defScope st)) (len : ∀ vs H Q E, sp vs H Q E → vs.length = ps.length)
    (hbody : ∀ (cdv : Value) (A : Around) (outer : List Env) (s : Shared) (H : Hp) (vs : List V) (Q : VK) (E : XK), Room k (A.deeper (envOfC qual (defScope st) s.heap.objs.size f cdv)) → (A.deeper (envOfC qual (defScope st) s.heap.objs.size f cdv)).guards = some [] → base.Ns mainGlobals mg → PySem.W.codeIn K cdv qual = true → sp vs H Q E →
      ∃ t, PSs (cxOf CX0 P w K mg base N qual (defScope st) f cdv A outer s H E).nox (defBody st) t ∧ t { nx := fun _ H' => Q .non H', rt := Q } (start N vs) H) : FnG P w K mg base (k + 1) f fd ps sp := by
  obtain ⟨oc, od, kV, doc, pm, an, cdv, ct, osl, rfl, lk, hcd⟩ := F.ex
  refine ⟨len, fun A outer s H args us vs Q E hr hg e0 hb r h => ?_⟩
  refine LamX.run_ofS (N := N) lk hcd S hr e0 hb r (len _ _ _ _ h) fun hr' => ?_
  obtain ⟨t, ht, q⟩ := hbody cdv A outer s H vs Q E hr' hg e0.mod.glob hcd h
  exact ⟨t, ht.nox, q⟩
end
section
variable {X : Cx} {k : Nat} {f : Addr} {fd : FuncData} {ps : List Str} {sp : Sp} {E : XK} {x : Str} {p pos : Pos} {e : Expr} {es : List Expr} {t : TA}
theorem run_fnG {pins : List (Addr × Obj)} {σ : L2.St} {H : Hp} {s : Shared} {Q : VK} {us : List Value} {vs : List V} (F : FnG X.prog X.w X.K X.mg X.base k f fd ps sp) (hr : Room k X.A) (hG : X.A.guards = some []) (hb : Binds X.K fd ps [])
    (I : Inv X pins σ H s) (r : Vals vs us) (h : sp vs H Q E) : wpAny (model X.prog X.w) X.A (call (.ref f) us) (EP X pins σ Q) X.xe s := by
  have hl : us.length = ps.length := by
    rw [← r.length]
    exact F.len _ _ _ _ h
  have b := hb s us I.kIn (by rw [List.append_nil]; exact hl)
  rw [List.append_nil] at b
  refine wpAny_call (codeAny_mono (F.run X.A X.stack s H ⟨us, []⟩ us vs Q E hr hG I.env0 b r h) ?_)
  intro r s' hq
  cases r with
  | error e => exact hq.elim
  | ok fl => cases fl with
    | ret u => exact I.after hq
    | next => exact hq.elim
    | brk => exact hq.elim
    | cont => exact hq.elim
theorem pe_callG (F : FnG X.prog X.w X.K X.mg X.base k f fd ps sp) (hr : Room k X.A) (hG : X.A.guards = some []) (hg : Gl X x) (hm : X.mg x = some (.ref f)) (hk : PySem.W.keepIn X.K (.ref f) = true) (hb : Binds X.K fd ps [])
    (ha : PA X (e :: es) t) (hdb : (x == ("__debug__" : Str)) = false := by decide) (he : starEach (e :: es) X.env = (false, eval e X.env) :: starEach es X.env := by rfl) (hpl : (backTo pos (starEach es X.env)).any (·.1) = false := by rfl) :
    PE X (.Call (.Name x p) (e :: es) [] pos) (tCall sp [] E t) := by
  refine ⟨fun pins s σ H Q I h => ?_⟩
  refine wpAny_Call_Name_kw (ld_glob I hg hm ?_ hdb)
  refine PySem.W.callWith_K (h₀ := X.base) I.ok.mod.kin hk (thn (ha.run pos pins s σ H _ I h) ?_) he hpl
  rintro us s1 ⟨vs, H1, I1, r, q⟩
  rw [List.append_nil] at q
  exact ⟨I1.kIn, run_fnG (E := E) F hr hG hb I1 r q⟩
end
end K3

/-! Rules of our own, 9: C.m(k = v), m a classmethod. -/
namespace K3
open PySem PySem.Spec PyProof.Rows L2
section
variable {X : Cx} {CX : CXT} {k : Nat} {f C p g : Addr} {mc : Value} {fd : FuncData} {ps ks : List Str} {sp : Sp} {E : XK} {m : Str} {pos apos : Pos} {o : Expr} {kws : List Keyword} {ta : TE} {tk : TA} {pl : Sem Bool}
def tCMethK1 (C : Addr) (j : Nat) (sp : Sp) (pm : {α : Type} → List α → List α) (E : XK) (ta : TE) (tk : TA) : TE := fun σ H Q => ta σ H fun x H1 => x = .ref C ∧ tk σ H1 fun zs H2 => zs.length = j ∧ sp (.ref C :: pm zs) H2 Q E
theorem pe_cmethK1 {pm : {α : Type} → List α → List α} (he : PE X o ta) (r : ClX.CRead X.K C mc) (c : ClX.CMet X.K C mc m p g) (F : FnOk X.prog X.w X.K X.mg X.base CX k g fd ps sp) (hr : Room k X.A) (hb : KB1 X.K fd ps ks pm) (hx : Passes CX X E) (hkw : PK X kws tk)
    (hall : (backToKw pos (keywordEach kws X.env)).all (·.1.isSome) = true := by rfl) (hks : (backToKw pos (keywordEach kws X.env)).filterMap (·.1) = ks := by rfl)
    (hpl : ((backTo pos (starEach [] X.env)).any (·.1) || (backToKw pos (keywordEach kws X.env)).any (·.1.isNone)) = false := by rfl)
    (ht : eval (.Call (.Attribute o m apos) [] kws pos) X.env = (do
      let ov ← eval o X.env
      standAt apos.atName
      let (f, first) ← holding [ov] (getMethod ov m pl)
      callWith pos f first (backTo pos (starEach [] X.env)) (backToKw pos (keywordEach kws X.env))) := by rfl) :
    PE X (.Call (.Attribute o m apos) [] kws pos) (tCMethK1 C ks.length sp pm E ta tk) := by
  refine ⟨fun pins s σ H Q I h => PySem.W.methodCall_KW (pl := pl) (thn (he.run pins s σ H _ I h) ?_) ht⟩
  rintro u s1 ⟨x, H1, I1, rx, ex, q⟩
  subst ex
  obtain rfl : u = Value.ref C := rx
  refine ClX.getmethcm_ok I1 r c fun s2 I2 => ?_
  refine PySem.W.callWith_of (P := PySem.W.MethP X.K s1.heap.objs.size g (.ref C)) hpl (PySem.W.keeps_M c.fi) (evalArgs_kw2_nil hall (thn (hkw.run pos _ s2 σ H1 _ I2 q) ?_))
  rintro ws s3 ⟨zs, H2, I3, rz, hl, q2⟩
  refine ⟨⟨ClX.pin_at I3, I3.kIn⟩, ?_⟩
  show wpAny _ _ (call (.ref s1.heap.objs.size) [] (((backToKw pos (keywordEach kws X.env)).filterMap (·.1)).zip ws)) _ _ _
  rw [hks]
  have z : wpAny (model X.prog X.w) X.A (call (.ref s1.heap.objs.size) [] (ks.zip ws)) (EP X ((s1.heap.objs.size, PySem.W.methodObj (.ref g) (.ref C)) :: pins) σ Q) X.xe s3 :=
    wpAny_call (PySem.W.method_call (ClX.pin_at I3) (run_k1 F hr hb hx I3 (y := .ref C) (u := .ref C) rfl rz (rz.length.symm.trans hl) q2))
  exact thn z fun _ _ y => ClX.unpinE y
end
end K3

/-! The text by places, what stands in the heap (data), comprehensions whose turns only add to the heap. -/
namespace K3
open PySem PySem.Spec PyProof.Rows L2
/-- the i-th statement of the top -/
def topS (i : Nat) : Stmt := PySem.Challenge.pw_toldcounts_k03_whole_areas_made_and_read.main.body.getD i (.Pass ⟨0, 0, 0, 0⟩)
/-- a def of the module: where it stands, its name's value, its binding -/
structure Dn (K : PySem.W.Frag) (mg : Str → Option Value) (x : Str) (st : Stmt) (ps : List Str) (f : Addr) (fd : FuncData) : Prop where
  F : Fun K x x st f fd
  m : mg x = some (.ref f)
  b : Binds K fd ps []
/-- the module's names that are free: built-ins; and its constants -/
structure Glb (mg : Str → Option Value) : Prop where
  isi : mg "isinstance" = none
  int : mg "int" = none
  bool : mg "bool" = none
  tup : mg "tuple" = none
  str : mg "str" = none
  len : mg "len" = none
  all : mg "all" = none
  enu : mg "enumerate" = none
  ran : mg "range" = none
  lst : mg "list" = none
  rep : mg "repr" = none
  abs : mg "abs" = none
  dvm : mg "divmod" = none
  min : mg "min" = none
  dig : ∃ t, mg "DIGITS" = some (.str "0123456789" t)
  let_ : ∃ t, mg "LETTERS" = some (.str "abcdefghijklmnopqrstuvwxyz" t)
  mnum : ∃ t, mg "MOST_NUMBER" = some (.int 4000 t)
  mlin : ∃ t, mg "MOST_LINES" = some (.int 10 t)

/-! ### data -/
def spanD (s : Span) : PyData := .tuple [.int s.1, .int s.2]
def lineD (l : Line) : PyData := .tuple [.str l.1, .str l.2.1, spanD l.2.2]
def optD : Option Line → PyData
  | none => .none
  | some l => lineD l
def linesD (ls : List Line) : PyData := .tuple (ls.map lineD)
def foundD (ls : List (Option Line)) : PyData := .tuple (ls.map optD)
section
variable {K : PySem.W.Frag} {H H' : Hp}
theorem dpAll_len : ∀ {vs : List V} {ds : List PyData}, DpAll K H vs ds → vs.length = ds.length
  | _, _, .nil => rfl
  | _, _, .cons _ t => by
    have := dpAll_len t
    simp [this]
theorem dpAll_at {vs : List V} {ds : List PyData} {i : Nat} {v : V} (h : DpAll K H vs ds) (hi : vs[i]? = some v) : ∃ d, ds[i]? = some d ∧ Dp K H v d := by
  induction vs generalizing ds i with
  | nil => simp at hi
  | cons w ws ih => cases h with
    | cons q t => cases i with
      | zero =>
        have e := Option.some.inj hi
        subst e
        exact ⟨_, rfl, q⟩
      | succ i =>
        obtain ⟨d, e, r⟩ := ih t (by simpa using hi)
        exact ⟨d, by simpa using e, r⟩
theorem dpAll_get {vs : List V} {ds : List PyData} {i : Nat} {d : PyData} (h : DpAll K H vs ds) (hi : ds[i]? = some d) : ∃ v, vs[i]? = some v ∧ Dp K H v d := by
  induction vs generalizing ds i with
  | nil => cases h; simp at hi
  | cons w ws ih => cases h with
    | cons q t => cases i with
      | zero =>
        have e := Option.some.inj hi
        subst e
        exact ⟨_, rfl, q⟩
      | succ i =>
        obtain ⟨v, e, r⟩ := ih t (by simpa using hi)
        exact ⟨v, by simpa using e, r⟩
theorem dpAll_snoc : ∀ {vs : List V} {ds : List PyData} {v : V} {d : PyData}, DpAll K H vs ds → Dp K H v d → DpAll K H (vs ++ [v]) (ds ++ [d])
  | _, _, _, _, .nil, q => .cons q .nil
  | _, _, _, _, .cons a t, q => .cons a (dpAll_snoc t q)
theorem dpAll_app : ∀ {vs ws : List V} {ds es : List PyData}, DpAll K H vs ds → DpAll K H ws es → DpAll K H (vs ++ ws) (ds ++ es)
  | _, _, _, _, .nil, q => q
  | _, _, _, _, .cons a t, q => .cons a (dpAll_app t q)
theorem dpAll_take : ∀ {vs : List V} {ds : List PyData} (n : Nat), DpAll K H vs ds → DpAll K H (vs.take n) (ds.take n)
  | _, _, 0, _ => .nil
  | _, _, n + 1, .nil => .nil
  | _, _, n + 1, .cons a t => .cons a (dpAll_take n t)
theorem dpAll_drop : ∀ {vs : List V} {ds : List PyData} (n : Nat), DpAll K H vs ds → DpAll K H (vs.drop n) (ds.drop n)
  | _, _, 0, q => q
  | _, _, n + 1, .nil => .nil
  | _, _, n + 1, .cons a t => dpAll_drop n t
theorem dpAll_strs : ∀ {vs : List V} {ws : List Str}, DpAll K H vs (ws.map PyData.str) → vs = ws.map V.str
  | _, [], .nil => rfl
  | _, w :: ws, .cons a t => by
    cases a
    rw [dpAll_strs t]
    rfl
theorem dpAll_ofStrs : ∀ (ws : List Str), DpAll K H (ws.map V.str) (ws.map PyData.str)
  | [] => .nil
  | w :: ws => .cons (.str w) (dpAll_ofStrs ws)
theorem dpAll_bools : ∀ {vs : List V} {ws : List Bool}, DpAll K H vs (ws.map PyData.bool) → vs = ws.map V.bl
  | _, [], .nil => rfl
  | _, w :: ws, .cons a t => by
    cases a
    rw [dpAll_bools t]
    rfl
theorem dp_span {v : V} {s : Span} (h : Dp K H v (spanD s)) : ∃ a, v = .ref a ∧ SqT K H a [.int s.1, .int s.2] := by
  cases h with
  | tup q r => cases r with
    | cons r1 r => cases r with
      | cons r2 r => cases r with
        | nil => cases r1; cases r2; exact ⟨_, rfl, q⟩
theorem dp_span_of {a : Addr} {s : Span} (h : SqT K H a [.int s.1, .int s.2]) : Dp K H (.ref a) (spanD s) := .tup h (.cons (.int _) (.cons (.int _) .nil))
theorem dp_line {v : V} {l : Line} (h : Dp K H v (lineD l)) : ∃ a w, v = .ref a ∧ SqT K H a [.str l.1, .str l.2.1, w] ∧ Dp K H w (spanD l.2.2) := by
  cases h with
  | tup q r => cases r with
    | cons r1 r => cases r with
      | cons r2 r => cases r with
        | cons r3 r => cases r with
          | nil => cases r1; cases r2; exact ⟨_, _, rfl, q, r3⟩
theorem dp_line_of {a : Addr} {l : Line} {w : V} (h : SqT K H a [.str l.1, .str l.2.1, w]) (hw : Dp K H w (spanD l.2.2)) : Dp K H (.ref a) (lineD l) := .tup h (.cons (.str _) (.cons (.str _) (.cons hw .nil)))
theorem dp_lines {v : V} {ls : List Line} (h : Dp K H v (linesD ls)) : ∃ a vs, v = .ref a ∧ SqT K H a vs ∧ DpAll K H vs (ls.map lineD) := by
  cases h with
  | tup q r => exact ⟨_, _, rfl, q, r⟩
theorem dp_found {v : V} {ls : List (Option Line)} (h : Dp K H v (foundD ls)) : ∃ a vs, v = .ref a ∧ SqT K H a vs ∧ DpAll K H vs (ls.map optD) := by
  cases h with
  | tup q r => exact ⟨_, _, rfl, q, r⟩
theorem found_some (ls : List Line) : foundD (ls.map some) = linesD ls := by
  unfold foundD linesD
  rw [List.map_map]
  rfl
theorem lines_at {vs : List V} {ls : List Line} {i : Nat} {v : V} (h : DpAll K H vs (ls.map lineD)) (hi : vs[i]? = some v) : ∃ l, ls[i]? = some l ∧ Dp K H v (lineD l) := by
  obtain ⟨d, hd, q⟩ := dpAll_at h hi
  rw [List.getElem?_map] at hd
  cases e : ls[i]? with
  | none =>
    rw [e] at hd
    cases hd
  | some l =>
    rw [e] at hd
    exact ⟨l, rfl, Option.some.inj hd ▸ q⟩
end
mutual
/-- no list within -/
def flatD : PyData → Bool
  | .none => true
  | .bool _ => true
  | .int _ => true
  | .str _ => true
  | .list _ => false
  | .tuple xs => flatDs xs
  | .dict _ => false
def flatDs : List PyData → Bool
  | [] => true
  | d :: ds => flatD d && flatDs ds
end
theorem flatDs_all : ∀ {ds : List PyData}, (∀ d ∈ ds, flatD d = true) → flatDs ds = true
  | [], _ => by unfold flatDs; rfl
  | d :: ds, h => by
    unfold flatDs
    rw [h d List.mem_cons_self, flatDs_all fun e he => h e (List.mem_cons_of_mem _ he)]
    rfl
theorem flat_span (s : Span) : flatD (spanD s) = true := by
  simp [spanD, flatD, flatDs]
theorem flat_line (l : Line) : flatD (lineD l) = true := by
  simp [lineD, flatD, flatDs, flat_span]
theorem flat_opt (o : Option Line) : flatD (optD o) = true := by
  cases o with
  | none => simp [optD, flatD]
  | some l => exact flat_line l
theorem flat_lines (ls : List Line) : flatD (linesD ls) = true := by
  unfold linesD flatD
  exact flatDs_all fun d hd => by
    obtain ⟨l, _, e⟩ := List.mem_map.mp hd
    rw [← e]
    exact flat_line l
/-- all that is tracked stays, but lists and tables -/
def KT (H H' : Hp) : Prop := ∀ b o, H b = some o → (∀ xs, o ≠ .lst xs) → (∀ ps, o ≠ .tbl ps) → H' b = some o
theorem KT.refl (H : Hp) : KT H H := fun _ _ h _ _ => h
theorem KT.trans {H H1 H2 : Hp} (a : KT H H1) (b : KT H1 H2) : KT H H2 := fun c o h n m => b c o (a c o h n m) n m
theorem KT.of {H H' : Hp} (a : Same H H') : KT H H' := fun b o h _ _ => a b o h
/-- all that is tracked stays, but what stands at j -/
def But (j : Addr) (H H' : Hp) : Prop := ∀ b o, H b = some o → b ≠ j → H' b = some o
theorem But.refl (j : Addr) (H : Hp) : But j H H := fun _ _ h _ => h
theorem But.trans {j : Addr} {H H1 H2 : Hp} (a : But j H H1) (b : But j H1 H2) : But j H H2 := fun c o h n => b c o (a c o h n) n
theorem But.of {j : Addr} {H H' : Hp} (a : Same H H') : But j H H' := fun b o h _ => a b o h
theorem But.kt {j : Addr} {H H' : Hp} {xs : List V} (a : But j H H') (hj : H j = some (.lst xs)) : KT H H' := fun b o h n _ => a b o h fun e => by
  rw [e, hj] at h
  exact n xs (Option.some.inj h).symm
theorem But.upd {j : Addr} {H : Hp} {o : HO} : But j H (upd H j o) := fun b u h n => by
  rw [upd_ne n]
  exact h
theorem Same.upd {H : Hp} {p : Addr} {o : HO} (h : H p = none) : Same H (upd H p o) := fun b u e => by
  rw [upd_ne (ne_of_none e h)]
  exact e
/-- all tuples that are tracked stay -/
def TK (H H' : Hp) : Prop := (∀ b xs, H b = some (.tup xs) → H' b = some (.tup xs)) ∧ ∀ b o xs, H b = some (.frz o (.tup xs)) → H' b = some (.frz o (.tup xs))
theorem KT.tk {H H' : Hp} (k : KT H H') : TK H H' := ⟨fun b xs h => k b _ h (fun _ z => nomatch z) (fun _ z => nomatch z), fun b o xs h => k b _ h (fun _ z => nomatch z) (fun _ z => nomatch z)⟩
theorem sqT_tk {K : PySem.W.Frag} {H H' : Hp} (k : TK H H') {a : Addr} {xs : List V} (h : SqT K H a xs) : SqT K H' a xs := by
  rcases h with (h | ⟨o, h⟩) | h
  · exact .inl (.inl (k.1 _ _ h))
  · exact .inl (.inr ⟨o, k.2 _ _ _ h⟩)
  · exact .inr h
mutual
theorem dp_tk {K : PySem.W.Frag} {H H' : Hp} (k : TK H H') : ∀ (d : PyData) (v : V), flatD d = true → Dp K H v d → Dp K H' v d
  | .none, v, _, h => by cases h; exact .non
  | .bool b, v, _, h => by cases h; exact .bl b
  | .int i, v, _, h => by cases h; exact .int i
  | .str x, v, _, h => by cases h; exact .str x
  | .list ds, v, f, h => by unfold flatD at f; cases f
  | .tuple ds, v, f, h => by
    unfold flatD at f
    cases h with
    | tup q r => exact .tup (sqT_tk k q) (dpAll_tk k ds _ f r)
  | .dict _, v, f, h => by cases h
theorem dpAll_tk {K : PySem.W.Frag} {H H' : Hp} (k : TK H H') : ∀ (ds : List PyData) (vs : List V), flatDs ds = true → DpAll K H vs ds → DpAll K H' vs ds
  | [], vs, _, h => by cases h; exact .nil
  | d :: ds, vs, f, h => by
    unfold flatDs at f
    obtain ⟨f1, f2⟩ := Bool.and_eq_true_iff.mp f
    cases h with
    | cons q r => exact .cons (dp_tk k d _ f1 q) (dpAll_tk k ds _ f2 r)
end
theorem dp_kt {K : PySem.W.Frag} {H H' : Hp} (k : KT H H') (d : PyData) (v : V) (f : flatD d = true) (h : Dp K H v d) : Dp K H' v d := dp_tk k.tk d v f h
theorem dpAll_kt {K : PySem.W.Frag} {H H' : Hp} (k : KT H H') (ds : List PyData) (vs : List V) (f : flatDs ds = true) (h : DpAll K H vs ds) : DpAll K H' vs ds := dpAll_tk k.tk ds vs f h
theorem sqT_kt {K : PySem.W.Frag} {H H' : Hp} (k : KT H H') {a : Addr} {xs : List V} (h : SqT K H a xs) : SqT K H' a xs := sqT_tk k.tk h

/-! ### comprehensions whose turns only add to the heap -/
theorem filterMap_range_succ {α : Type} (f : Nat → Option α) (n : Nat) : (List.range (n + 1)).filterMap f = (List.range n).filterMap f ++ (match f n with | some d => [d] | none => []) := by
  rw [List.range_succ, List.filterMap_append]
  cases e : f n <;> simp [List.filterMap, e]
theorem fm_len {α : Type} (f : Nat → Option α) (n : Nat) : ((List.range n).filterMap f).length ≤ n := by
  have := List.length_filterMap_le f (List.range n)
  simpa using this
theorem lc_data {K : PySem.W.Frag} {J : It} {n : Nat} {G : Hp → Prop} {Y : Nat → Hp → V → Hp → Prop} (w : Walk J n G Y) {g : TG} {tt : TT} {te : TE} {vs : List Nat} {σ : L2.St} {H1 : Hp} {D : Addr} {Qd : Hp → Prop} (f : Nat → Option PyData)
    (hD : H1 D = none) (hn : n ≤ 4000) (hG : ∀ H, Same H1 H → G H) (hf : ∀ i d, f i = some d → flatD d = true)
    (hs : ∀ i x H H' (C : Option V → Hp → Prop), i < n → Same H1 H → Y i H x H' → (∀ H4 y d, Same H H4 → f i = some d → Dp K H4 y d → C (some y) H4) → (∀ H4, Same H H4 → f i = none → C none H4) →
      g x (wipe σ vs) H' fun σ2 H2 => wipe σ2 vs = wipe σ vs ∧ tt σ2 H2 fun b H3 => if b = true then te σ2 H3 fun y H4 => C (some y) H4 else C none H3)
    (hd : ∀ H ys, Same H1 H → H D = some (.lst ys) → DpAll K H ys ((List.range n).filterMap f) → Qd H) :
    ∃ W : Nat → Nat → Hp → Prop, (∃ m, W 0 m (upd H1 D (.lst []))) ∧ ∀ i m H, W i m H →
      (J.stop i H ∧ Qd H) ∨ (J.go i H ∧ ∃ Nx : Hp → Prop, (∀ H', Nx H' → ∃ m', m' < m ∧ W (i + 1) m' H') ∧ ∀ x H', J.yld i H x H' → g x (wipe σ vs) H' fun σ2 H2 => wipe σ2 vs = wipe σ vs ∧ tt σ2 H2 fun b H3 =>
        if b = true then te σ2 H3 fun y H4 => ∃ acc, H4 D = some (.lst acc) ∧ acc.length < sizeLine ∧ Nx (upd H4 D (.lst (acc ++ [y]))) else Nx H3) := by
  have big : 4000 < sizeLine := by rw [sizeLine_eq]; omega
  refine lc_it w (fun i H => ∃ ys, Same H1 H ∧ H D = some (.lst ys) ∧ DpAll K H ys ((List.range i).filterMap f)) ⟨[], Same.upd hD, upd_same, .nil⟩ (fun i H _ ⟨_, s, _⟩ => hG H s) ?_ (fun H ⟨ys, s, h, r⟩ => hd H ys s h r)
  rintro i x H H' hi ⟨ys, s, hys, r⟩ y
  have hlen : ys.length ≤ i := by
    rw [dpAll_len r]
    exact fm_len f i
  refine hs i x H H' (fun o H4 => match o with
    | some y => ∃ acc, H4 D = some (.lst acc) ∧ acc.length < sizeLine ∧ ∃ zs, Same H1 (upd H4 D (.lst (acc ++ [y]))) ∧ (upd H4 D (.lst (acc ++ [y]))) D = some (.lst zs) ∧ DpAll K (upd H4 D (.lst (acc ++ [y]))) zs ((List.range (i + 1)).filterMap f)
    | none => ∃ zs, Same H1 H4 ∧ H4 D = some (.lst zs) ∧ DpAll K H4 zs ((List.range (i + 1)).filterMap f)) hi s y (fun H4 z d s4 e q => ?_) (fun H4 s4 e => ?_)
  · have k4 : KT H4 (upd H4 D (.lst (ys ++ [z]))) := (But.upd (j := D)).kt (s4 _ _ hys)
    refine ⟨ys, s4 _ _ hys, by omega, ys ++ [z], fun b o hb => ?_, upd_same, ?_⟩
    · rw [upd_ne (ne_of_none hb hD)]
      exact s4 _ _ (s _ _ hb)
    · rw [filterMap_range_succ, e]
      have fl : flatDs ((List.range i).filterMap f ++ [d]) = true := flatDs_all fun e he => by
        rcases List.mem_append.mp he with h | h
        · obtain ⟨j, _, ej⟩ := List.mem_filterMap.mp h
          exact hf j e ej
        · rw [List.mem_singleton.mp h]
          exact hf i d ‹_›
      exact dpAll_kt k4 _ _ fl (dpAll_snoc (dpAll_same s4 r) q)
  · refine ⟨ys, s.trans s4, s4 _ _ hys, ?_⟩
    rw [filterMap_range_succ, e, List.append_nil]
    exact dpAll_same s4 r
end K3

/-! Promises of the program's defs, 1: values, stretches. -/
namespace K3
open PySem PySem.Spec PyProof.Rows L2 TL
def OkF (P : Program) (w : World) (K : PySem.W.Frag) (mg : Str → Option Value) (base : Heap) (k : Nat) (x : Str) (i : Nat) (ps : List Str) (sp : Sp) : Prop := ∃ f fd, Dn K mg x (topS i) ps f fd ∧ FnOk P w K mg base CX0 k f fd ps sp
def DnE (K : PySem.W.Frag) (mg : Str → Option Value) (x : Str) (i : Nat) (ps : List Str) : Prop := ∃ f fd, Dn K mg x (topS i) ps f fd
theorem bIsi : bootBuiltins "isinstance" = some (.builtin "isinstance") := by decide +kernel
theorem bInt : bootBuiltins "int" = some (.type "int") := by decide +kernel
theorem bBool : bootBuiltins "bool" = some (.type "bool") := by decide +kernel
theorem bTup : bootBuiltins "tuple" = some (.type "tuple") := by decide +kernel
theorem bStr : bootBuiltins "str" = some (.type "str") := by decide +kernel
theorem bLen : bootBuiltins "len" = some (.builtin "len") := by decide +kernel
theorem bAll : bootBuiltins "all" = some (.builtin "all") := by decide +kernel
theorem tyes {σ : L2.St} {H : Hp} {A B : Hp → Prop} (h : A H) : tYes σ H (fun b H3 => if b = true then A H3 else B H3) := by
  show if true = true then A H else B H
  rw [if_pos rfl]
  exact h
section
variable {P : Program} {w : World} {K : PySem.W.Frag} {mg : Str → Option Value} {base : Heap}
/-! ### is_integer -/
def spIsInt : Sp := fun vs H Q _ => ∃ i : Int, vs = [.int i] ∧ Q (.bl true) H
theorem sc13 : FnScope ["value"] ["value"] (defScope (topS 13)) := ⟨rfl, rfl, rfl, by decide +kernel, rfl, by decide +kernel, by decide +kernel⟩
theorem ok_isInt (G : Glb mg) (D : DnE K mg "is_integer" 13 ["value"]) : OkF P w K mg base 1 "is_integer" 13 ["value"] spIsInt := by
  obtain ⟨f, fd, D⟩ := D
  refine ⟨f, fd, D, D.F.ok sc13 (fun vs H Q E h => ?_) (fun cdv A outer s H vs Q E hr h => ?_)⟩
  · obtain ⟨i, rfl, _⟩ := h
    rfl
  · obtain ⟨i, rfl, k⟩ := h
    refine ⟨_, pss_one (ps_ret (pe_and (pe_callB call_isi rfl G.isi bIsi (pa_cons (pv 0) (pa_cons (pe_bltn (v := .ty "int") rfl G.int bInt rfl) pa_nil)))
      (pe_one (pe_not (pe_callB call_isi rfl G.isi bIsi (pa_cons (pv 0) (pa_cons (pe_bltn (v := .ty "bool") rfl G.bool bBool rfl) pa_nil))))))), ?_⟩
    refine ⟨_, rfl, _, _, _, _, true, rfl, .ty "int", .base (.int i), kit_ty (by decide +kernel), _, rfl, ?_⟩
    exact ⟨_, rfl, _, _, _, _, false, rfl, .ty "bool", .base (.int i), kit_ty (by decide +kernel), _, rfl, k⟩
/-! ### is_within -/
def spWithin : Sp := fun vs H Q _ => ∃ i a b : Int, vs = [.int i, .int a, .int b] ∧ Q (.bl (decide (a ≤ i) && decide (i ≤ b))) H
theorem sc14 : FnScope ["value", "least", "greatest"] ["value", "least", "greatest"] (defScope (topS 14)) := ⟨rfl, rfl, rfl, by decide +kernel, rfl, by decide +kernel, by decide +kernel⟩
theorem ok_within (G : Glb mg) (D : DnE K mg "is_within" 14 ["value", "least", "greatest"]) (A1 : OkF P w K mg base 1 "is_integer" 13 ["value"] spIsInt) : OkF P w K mg base 2 "is_within" 14 ["value", "least", "greatest"] spWithin := by
  obtain ⟨f, fd, D⟩ := D
  obtain ⟨f1, fd1, D1, G1⟩ := A1
  refine ⟨f, fd, D, D.F.ok sc14 (fun vs H Q E h => ?_) (fun cdv A outer s H vs Q E hr h => ?_)⟩
  · obtain ⟨i, a, b, rfl, _⟩ := h
    rfl
  · obtain ⟨i, a, b, rfl, k⟩ := h
    refine ⟨_, pss_one (ps_ret (pe_and (pe_call G1 hr rfl D1.m D1.F.kp D1.b .nil pass0 (pa_cons (pv 0) pa_nil)) (pe_one (pe_chain op_le op_le (pv 1) (pv 0) (pv 2))))), ?_⟩
    refine ⟨_, rfl, i, rfl, _, rfl, ?_⟩
    refine ⟨_, rfl, _, rfl, _, _, rfl, rfl, _, rfl, ?_⟩
    cases e : decide (a ≤ i) with
    | true =>
      rw [e] at k
      exact iteT ⟨_, rfl, _, _, rfl, rfl, k⟩
    | false =>
      rw [e] at k
      exact iteF k
/-! ### is_tuple_of: None, or a tuple -/
def spTupOf (K : PySem.W.Frag) : Sp := fun vs H Q _ => ∃ (v : V) (m : Int), vs = [v, .int m] ∧ ((v = .non ∧ Q (.bl false) H) ∨ ∃ a xs, v = .ref a ∧ SqT K H a xs ∧ Q (.bl (decide ((xs.length : Int) = m))) H)
theorem sc15 : FnScope ["value", "many"] ["value", "many"] (defScope (topS 15)) := ⟨rfl, rfl, rfl, by decide +kernel, rfl, by decide +kernel, by decide +kernel⟩
theorem tyx_tup {K : PySem.W.Frag} {H : Hp} {a : Addr} {xs : List V} (h : SqT K H a xs) : TyX K H (.ref a) (.type "tuple") := by
  rcases h with (h | ⟨o, h⟩) | ⟨o, its, n, hk, hc, _⟩
  · exact .base (.tup h)
  · exact .fTuple h
  · exact .kTuple hk hc
theorem ok_tupOf (G : Glb mg) (D : DnE K mg "is_tuple_of" 15 ["value", "many"]) : OkF P w K mg base 1 "is_tuple_of" 15 ["value", "many"] (spTupOf K) := by
  obtain ⟨f, fd, D⟩ := D
  refine ⟨f, fd, D, D.F.ok sc15 (fun vs H Q E h => ?_) (fun cdv A outer s H vs Q E hr h => ?_)⟩
  · obtain ⟨v, m, rfl, _⟩ := h
    rfl
  · obtain ⟨v, m, rfl, k⟩ := h
    refine ⟨_, pss_one (ps_ret (pe_and (pe_callB call_isi rfl G.isi bIsi (pa_cons (pv 0) (pa_cons (pe_bltn (v := .ty "tuple") rfl G.tup bTup rfl) pa_nil)))
      (pe_one (pe_cmpR op_eq (pe_callB call_len_seq rfl G.len bLen (pa_cons (pv 0) pa_nil)) (pv 1) (nomark _))))), ?_⟩
    rcases k with ⟨rfl, k⟩ | ⟨a, xs, rfl, hx, k⟩
    · exact ⟨_, rfl, _, _, _, _, false, rfl, .ty "tuple", .base .non, kit_ty (by decide +kernel), _, rfl, k⟩
    · refine ⟨_, rfl, _, _, _, _, true, rfl, .ty "tuple", tyx_tup hx, kit_ty (by decide +kernel), _, rfl, ?_⟩
      refine ⟨_, rfl, a, xs, rfl, .inr hx, _, rfl, rfl, ?_⟩
      have e : decide (V.int (xs.length : Int) = V.int m) = decide ((xs.length : Int) = m) := by
        rw [Bool.eq_iff_iff]
        simp
      rw [e]
      exact k
/-! ### is_name: a text -/
def spIsName : Sp := fun vs H Q _ => ∃ x : Str, vs = [.str x] ∧ x.length ≤ 4000 ∧ ∀ H', Same H H' → Q (.bl (isTag x)) H'
theorem sc16 : FnScope ["value", "sign"] ["value"] (defScope (topS 16)) := ⟨rfl, rfl, rfl, by decide +kernel, rfl, by decide +kernel, by decide +kernel⟩
theorem lowIn (c : Nat) : decide (c ∈ (Str.ofString "abcdefghijklmnopqrstuvwxyz").cps.toList) = isLow c := by
  have e : (Str.ofString "abcdefghijklmnopqrstuvwxyz").cps.toList = [97, 98, 99, 100, 101, 102, 103, 104, 105, 106, 107, 108, 109, 110, 111, 112, 113, 114, 115, 116, 117, 118, 119, 120, 121, 122] := by decide +kernel
  rw [e]
  unfold isLow
  rw [Bool.eq_iff_iff]
  simp only [decide_eq_true_eq, Bool.and_eq_true, List.mem_cons, List.not_mem_nil, or_false]
  omega
theorem digIn (c : Nat) : decide (c ∈ (Str.ofString "0123456789").cps.toList) = isDig c := by
  have e : (Str.ofString "0123456789").cps.toList = [48, 49, 50, 51, 52, 53, 54, 55, 56, 57] := by decide +kernel
  rw [e]
  unfold isDig
  rw [Bool.eq_iff_iff]
  simp only [decide_eq_true_eq, Bool.and_eq_true, List.mem_cons, List.not_mem_nil, or_false]
  omega
theorem fm_some {α β : Type} (F : α → β) : ∀ l : List α, (List.range l.length).filterMap (fun i => (l[i]?).map F) = l.map F
  | [] => rfl
  | a :: l => by
    rw [List.length_cons, List.range_succ_eq_map, List.filterMap_cons]
    simp only [List.getElem?_cons_zero, Option.map_some, List.filterMap_map, List.map_cons]
    congr 1
    exact fm_some F l
theorem tl_at {x : Str} {i c : Nat} (h : x.cps[i]? = some c) : (tl x)[i]? = some c := by
  show x.cps.toList[i]? = some c
  rw [Array.getElem?_toList]
  exact h
theorem ok_isName (G : Glb mg) (D : DnE K mg "is_name" 16 ["value"]) : OkF P w K mg base 1 "is_name" 16 ["value"] spIsName := by
  obtain ⟨f, fd, D⟩ := D
  obtain ⟨tl_, hL⟩ := G.let_
  refine ⟨f, fd, D, D.F.ok sc16 (fun vs H Q E h => ?_) (fun cdv A outer s H vs Q E hr h => ?_)⟩
  · obtain ⟨x, rfl, _⟩ := h
    rfl
  · obtain ⟨x, rfl, hx, k⟩ := h
    refine ⟨_, pss_one (ps_ret (pe_and (pe_callB call_isi rfl G.isi bIsi (pa_cons (pv 0) (pa_cons (pe_bltn (v := .ty "str") rfl G.str bStr rfl) pa_nil)))
      (pe_and (pe_chain op_le op_le pe_int (pe_callB call_len_str rfl G.len bLen (pa_cons (pv 0) pa_nil)) pe_int)
      (pe_one (pe_callB (cr_all rfl) rfl G.all bAll (pa_cons
        (pe_lc (own := [("sign", 1)]) (g := gName 1) (tt := tYes) rfl sc16.nd (pi_str (pv 0)) (blkOk_by (N := ["value", "sign"]) (sc := defScope (topS 16)) (by decide +kernel)) (fun _ _ _ _ _ => pg_name (i := 1) sc16.nd rfl (Or.inl rfl)) (fun _ _ _ _ _ => pts_nil)
          (fun _ _ _ _ _ => pe_cmpR op_inS (pv 1) (pe_glob (v := .str "abcdefghijklmnopqrstuvwxyz") rfl hL ⟨_, rfl⟩) (by with_unfolding_all rfl))) pa_nil)))))), ?_⟩
    have zl : x.length ≤ sizeLine := Nat.le_trans hx (by rw [sizeLine_eq]; omega)
    refine ⟨_, rfl, _, _, _, _, true, rfl, .ty "str", .base (.str x), kit_ty (by decide +kernel), _, rfl, ?_⟩
    refine ⟨_, rfl, x, rfl, zl, _, _, rfl, rfl, _, rfl, ?_⟩
    have lg : (tl x).length = x.length := (len_tl x).symm
    refine ite2 (fun h1 => ?_) (fun h1 => ?_)
    · have h1' : 1 ≤ x.length := by
        have := of_decide_eq_true h1
        omega
      refine ⟨_, _, rfl, rfl, _, rfl, ?_⟩
      refine ite2 (fun h2 => ?_) (fun h2 => ?_)
      · have h2' : x.length ≤ 8 := by
          have := of_decide_eq_true h2
          omega
        refine ⟨_, rfl, x, rfl, fun L hL' => ?_⟩
        refine lc_data (K := K) walk_str (fun i => ((tl x)[i]?).map fun c => PyData.bool (isLow c)) hL' (by show x.length ≤ 4000; exact hx) (fun _ _ => trivial) (fun i d e => ?_) (fun i v H2 H3 C hi s2 y c1 c2 => ?_) (fun H2 ys s2 hys r => ?_)
        · obtain ⟨c, _, rfl⟩ := Option.map_eq_some_iff.mp e
          simp [flatD]
        · obtain ⟨rfl, c, hc, rfl⟩ := y
          refine ⟨rfl, tyes ?_⟩
          refine ⟨_, rfl, c, _, rfl, rfl, c1 _ _ (.bool (isLow c)) (Same.refl _) (by rw [tl_at hc]; rfl) ?_⟩
          rw [lowIn]
          exact .bl _
        · have e : (List.range x.cps.size).filterMap (fun i => ((tl x)[i]?).map fun c => PyData.bool (isLow c)) = ((tl x).map isLow).map PyData.bool := by
            have := fm_some (fun c => PyData.bool (isLow c)) (tl x)
            rw [lg] at this
            rw [List.map_map]
            exact this
          rw [e] at r
          refine ⟨L, (tl x).map isLow, rfl, .of (hys.trans (congrArg (fun z => some (HO.lst z)) (dpAll_bools r))), ?_⟩
          have e2 : ((tl x).map isLow).all id = isTag x := by
            unfold isTag
            rw [List.all_map, decide_eq_true h1', decide_eq_true h2']
            rfl
          rw [e2]
          exact k H2 s2
      · have e : isTag x = false := by
          unfold isTag
          have : ¬ x.length ≤ 8 := fun q => h2 (decide_eq_true (by omega))
          rw [decide_eq_false this, Bool.and_false, Bool.false_and]
        have := k H (Same.refl H)
        rw [e] at this
        exact this
    · have e : isTag x = false := by
        unfold isTag
        have : ¬ 1 ≤ x.length := fun q => h1 (decide_eq_true (by omega))
        rw [decide_eq_false this, Bool.false_and, Bool.false_and]
      have := k H (Same.refl H)
      rw [e] at this
      exact ⟨_, rfl, iteF this⟩
end
end K3

/-! Promises of the program's defs, 2: written_natural, is_stretch, check_stretch, written_stretch, stretch_told. -/
namespace K3
open PySem PySem.Spec PyProof.Rows L2 TL
theorem big4000 {n : Nat} (h : n ≤ 4000) : n ≤ sizeLine := Nat.le_trans h (by rw [sizeLine_eq]; omega)
theorem strEq (x y : Str) : decide (V.str x = V.str y) = decide (x = y) := by
  rw [Bool.eq_iff_iff]
  simp
theorem intEq (x y : Int) : decide (V.int x = V.int y) = decide (x = y) := by
  rw [Bool.eq_iff_iff]
  simp
theorem any_all {α : Type} (f : α → Bool) (l : List α) : (l.map f).all id = l.all f := by
  rw [List.all_map]
  rfl
theorem tl_empty : tl Str.empty = [] := rfl
theorem str_empty : (Str.ofString "" : Str) = Str.empty := by decide +kernel
theorem str_zero : (Str.ofString "0" : Str) = sgn 48 := by decide +kernel
theorem str_dash : (Str.ofString "-" : Str) = dash := by decide +kernel
theorem str_spc : (Str.ofString " " : Str) = spc := by decide +kernel
theorem str_nl : (Str.ofString "\n" : Str) = nlS := by decide +kernel
theorem eq_sgn {x : Str} {c : Nat} : x = sgn c ↔ tl x = [c] := ⟨fun h => by rw [h]; rfl, fun h => ext_tl h⟩
theorem atI_head {x : Str} {c : Nat} {r : List Nat} (h : tl x = c :: r) : atI x.cps.toList 0 = some c := by
  show atI (tl x) 0 = some c
  rw [h]
  exact atI_nat (j := 0) rfl
theorem intOf {x : Str} (h : isNum x = true) (hl : x.length ≤ 4300) : PySem.intText? x = some (numV x) :=
  PySem.intText_digits (isNum_digits h).1 (isNum_digits h).2 hl
theorem log_small {i : Int} (h0 : 0 ≤ i) (h1 : i ≤ 4294967296) : i.natAbs.log2 < 1920 := by
  have : i.natAbs.log2 ≤ 32 := by
    by_cases hz : i.natAbs = 0
    · rw [hz]; decide
    · have h2 : i.natAbs < 2 ^ 33 := by omega
      have := (Nat.log2_lt hz).mpr h2
      omega
  omega
/-- a value that may be none: an int -/
def oI : Option Int → V
  | none => .non
  | some i => .int i
def oID : Option Int → PyData
  | none => .none
  | some i => .int i
section
variable {P : Program} {w : World} {K : PySem.W.Frag} {mg : Str → Option Value} {base : Heap}
/-! ### written_natural -/
def spNat : Sp := fun vs H Q _ => ∃ x : Str, vs = [.str x] ∧ TxtOk x ∧ ∀ H', Same H H' → Q (oI (numP x)) H'
theorem sc17 : FnScope ["word", "sign"] ["word"] (defScope (topS 17)) := ⟨rfl, rfl, rfl, by decide +kernel, rfl, by decide +kernel, by decide +kernel⟩
theorem ok_nat (G : Glb mg) (D : DnE K mg "written_natural" 17 ["word"]) : OkF P w K mg base 1 "written_natural" 17 ["word"] spNat := by
  obtain ⟨f, fd, D⟩ := D
  obtain ⟨tk, hL⟩ := G.dig
  refine ⟨f, fd, D, D.F.ok sc17 (fun vs H Q E h => ?_) (fun cdv A outer s H vs Q E hr h => ?_)⟩
  · obtain ⟨x, rfl, _⟩ := h
    rfl
  · obtain ⟨x, rfl, ⟨hx, hxd⟩, k⟩ := h
    refine ⟨_, pss_cons (ps_if (PW.pt (pw_or (pt_cmpR op_eq (pv 0) pe_str (nomark _)) (pw_or (pt_cmpR op_gt (pe_callB call_len_str rfl G.len bLen (pa_cons (pv 0) pa_nil)) pe_int (nomark _))
      (pw_or1 (pt_not (pt_val (pe_callB (cr_all rfl) rfl G.all bAll (pa_cons
        (pe_lc (own := [("sign", 1)]) (g := gName 1) (tt := tYes) rfl sc17.nd (pi_str (pv 0)) (blkOk_by (N := ["word", "sign"]) (sc := defScope (topS 17)) (by decide +kernel)) (fun _ _ _ _ _ => pg_name (i := 1) sc17.nd rfl (Or.inl rfl)) (fun _ _ _ _ _ => pts_nil)
          (fun _ _ _ _ _ => pe_cmpR op_inS (pv 1) (pe_glob (v := .str "0123456789") rfl hL ⟨_, rfl⟩) (by with_unfolding_all rfl))) pa_nil)))))))) (pss_one (ps_ret pe_non)) pss_nil)
      (pss_one (ps_ret (pe_ifExp (PW.pt (pw_or (pt_cmpR op_eq (pv 0) pe_str (nomark _)) (pw_or1 (pt_cmpR op_ne (pe_ix ix_str (pv 0) pe_int (fun _ _ => rfl)) pe_str (nomark _)))))
        (pe_callTy call_int_str rfl G.int bInt (pa_cons (pv 0) pa_nil)) pe_non))), ?_⟩
    have zl : x.length ≤ sizeLine := big4000 (by omega)
    have lg : (tl x).length = x.length := (len_tl x).symm
    refine ⟨_, rfl, rfl, _, rfl, ?_⟩
    refine ite2 (fun h1 => ?_) (fun h1 => ?_)
    · -- empty
      have e : numP x = none := by
        have e0 : x = Str.empty := by
          rw [strEq, str_empty] at h1
          exact of_decide_eq_true h1
        rw [e0]
        decide +kernel
      have := k H (Same.refl H)
      rw [e] at this
      exact iteT this
    · have ne : tl x ≠ [] := fun q => h1 (by rw [strEq, str_empty]; exact decide_eq_true (tl_nil_iff.mp q))
      refine ⟨_, rfl, x, rfl, zl, _, _, rfl, rfl, _, rfl, ?_⟩
      refine ite2 (fun h2 => ?_) (fun h2 => ?_)
      · exfalso
        have := of_decide_eq_true h2
        omega
      · refine ⟨_, rfl, x, rfl, fun L hL' => ?_⟩
        refine lc_data (K := K) walk_str (fun i => ((tl x)[i]?).map fun c => PyData.bool (isDig c)) hL' (by show x.length ≤ 4000; omega) (fun _ _ => trivial) (fun i d e => ?_) (fun i v H2 H3 C hi s2 y c1 c2 => ?_) (fun H2 ys s2 hys r => ?_)
        · obtain ⟨c, _, rfl⟩ := Option.map_eq_some_iff.mp e
          simp [flatD]
        · obtain ⟨rfl, c, hc, rfl⟩ := y
          refine ⟨rfl, tyes ?_⟩
          refine ⟨_, rfl, c, _, rfl, rfl, c1 _ _ (.bool (isDig c)) (Same.refl _) (by rw [tl_at hc]; rfl) ?_⟩
          rw [digIn]
          exact .bl _
        · have e : (List.range x.cps.size).filterMap (fun i => ((tl x)[i]?).map fun c => PyData.bool (isDig c)) = ((tl x).map isDig).map PyData.bool := by
            have := fm_some (fun c => PyData.bool (isDig c)) (tl x)
            rw [lg] at this
            rw [List.map_map]
            exact this
          rw [e] at r
          refine ⟨L, (tl x).map isDig, rfl, .of (hys.trans (congrArg (fun z => some (HO.lst z)) (dpAll_bools r))), _, rfl, ?_⟩
          rw [any_all]
          cases ed : (tl x).all isDig with
          | false =>
            have e : numP x = none := by
              unfold numP isNum
              rw [ed]
              simp
            have := k H2 s2
            rw [e] at this
            exact iteT this
          | true =>
            refine iteF ?_
            refine ⟨_, rfl, rfl, _, rfl, ?_⟩
            have fin : ∀ b : Bool, b = isNum x → (if b = true then tCB (fun (xs : List V) H Q => ∃ a n, xs = [.str a] ∧ PySem.intText? a = some n ∧ a.length ≤ 640 ∧ Q (.int n) H) (tCons (tVar 0) tNil) [some (.str x), none] H2 Q else Q .non H2) := by
              intro b eb
              have kk := k H2 s2
              unfold numP at kk
              refine ite2 (fun hb => ?_) (fun hb => ?_)
              · rw [← eb, if_pos hb] at kk
                exact ⟨_, rfl, x, numV x, rfl, intOf (eb.symm.trans hb) (by omega), num_short hxd (eb.symm.trans hb), kk⟩
              · rw [← eb, if_neg hb] at kk
                exact kk
            rw [strEq, str_zero]
            refine ite2 (fun h3 => ?_) (fun h3 => ?_)
            · have h3' : tl x = [48] := eq_sgn.mp (of_decide_eq_true h3)
              refine fin true ?_
              unfold isNum
              rw [h3']
              rfl
            · obtain ⟨c, r', hc⟩ : ∃ c r', tl x = c :: r' := by
                cases e : tl x with
                | nil => exact absurd e ne
                | cons c r' => exact ⟨c, r', rfl⟩
              refine ⟨_, rfl, x, 0, c, rfl, rfl, zl, atI_head hc, rfl, _, rfl, ?_⟩
              refine fin _ ?_
              have e1 : decide (tl x = [48]) = false := decide_eq_false fun q => h3 (decide_eq_true (eq_sgn.mpr q))
              have e2 : decide (V.str ⟨#[c]⟩ = V.str (sgn 48)) = decide (c = 48) := by
                rw [strEq, Bool.eq_iff_iff]
                simp only [decide_eq_true_eq]
                exact ⟨fun q => by have := congrArg tl q; exact (List.cons.inj this).1, fun q => by rw [q]; rfl⟩
              unfold isNum
              rw [ed, e1, hc]
              show (!decide (V.str ⟨#[c]⟩ = V.str (Str.ofString "0"))) = _
              rw [str_zero, e2]
              simp
end
end K3

/-! Promises of the program's defs, 3: is_stretch, check_stretch, written_stretch, stretch_told. -/
namespace K3
open PySem PySem.Spec PyProof.Rows L2 TL
theorem atI_last {α : Type} {l : List α} {x : α} (h : l.getLast? = some x) : atI l (-1) = some x := by
  have hne : l ≠ [] := fun e => by rw [e] at h; cases h
  have hl : 0 < l.length := List.length_pos_iff.mpr hne
  have e : ixN l.length (-1) = some (l.length - 1) := by
    unfold ixN
    rw [if_neg (by omega), if_pos (by omega)]
    congr 1
    omega
  unfold atI
  rw [e]
  show l[l.length - 1]? = some x
  rw [← h, List.getLast?_eq_getElem?]
theorem spanP_none {x : Str} (h : none ∈ (Txt.split x dash).map numP ∨ 2 < ((Txt.split x dash).map numP).length) : spanP x = none := by
  unfold spanP
  generalize (Txt.split x dash).map numP = l at h
  match l, h with
  | [], _ => rfl
  | [none], _ => rfl
  | [some a], h => simp at h
  | [none, _], _ => rfl
  | [some a, none], _ => rfl
  | [some a, some b], h => simp at h
  | none :: _ :: _ :: _, _ => rfl
  | some _ :: none :: _ :: _, _ => rfl
  | some _ :: some _ :: _ :: _, _ => rfl
theorem numP_list : ∀ {l : List (Option Int)}, none ∉ l → ∃ is : List Int, l = is.map some
  | [], _ => ⟨[], rfl⟩
  | none :: r, h => absurd List.mem_cons_self h
  | some a :: r, h => by
    obtain ⟨is, e⟩ := numP_list (l := r) fun q => h (List.mem_cons_of_mem _ q)
    exact ⟨a :: is, by rw [e]; rfl⟩
theorem dash_lt : (45 : Nat) < 256 := by decide
theorem spanP_code {x : Str} {is : List Int} (h : (Txt.split x dash).map numP = is.map some) (hl : is.length ≤ 2) :
    ∃ a b, is.head? = some a ∧ is.getLast? = some b ∧ spanP x = if spanOk (a, b) = true ∧ spanT (a, b) = x then some (a, b) else none := by
  have hj : Txt.join dash (Txt.split x dash) = x := join_split x dash_lt
  unfold spanP
  rw [h]
  cases e : Txt.split x dash with
  | nil => exact absurd e (split_ne x dash_lt)
  | cons p r =>
    rw [e] at h hj
    match is, h, hl with
    | [], h, _ => simp at h
    | [a], h, _ =>
      have hr : r = [] := by
        cases r with
        | nil => rfl
        | cons _ _ => simp at h
      subst hr
      have hp : numP p = some a := by simpa using h
      obtain ⟨_, _, h3, h4⟩ := numP_some hp
      refine ⟨a, a, rfl, rfl, ?_⟩
      have hx : spanT (a, a) = x := by
        unfold spanT
        rw [if_pos rfl]
        rw [join1] at hj
        exact h3.trans hj
      show (if a ≤ 4000 then some (a, a) else none) = _
      by_cases hle : a ≤ 4000
      · rw [if_pos hle, if_pos ⟨spanOk_iff.mpr ⟨h4, Int.le_refl _, hle⟩, hx⟩]
      · rw [if_neg hle, if_neg fun q => hle (spanOk_iff.mp q.1).2.2]
    | [a, b], h, _ =>
      obtain ⟨p2, hr⟩ : ∃ p2, r = [p2] := by
        cases r with
        | nil => simp at h
        | cons p2 r => cases r with
          | nil => exact ⟨p2, rfl⟩
          | cons _ _ => simp at h
      subst hr
      have hp : numP p = some a ∧ numP p2 = some b := by simpa using h
      obtain ⟨_, _, h3, h4⟩ := numP_some hp.1
      obtain ⟨_, _, g3, g4⟩ := numP_some hp.2
      refine ⟨a, b, rfl, rfl, ?_⟩
      rw [join2] at hj
      show (if a < b ∧ b ≤ 4000 then some (a, b) else none) = _
      by_cases hle : a < b ∧ b ≤ 4000
      · have hx : spanT (a, b) = x := by
          unfold spanT
          rw [if_neg (by show ¬ a = b; omega)]
          show natT a ++ dash ++ natT b = x
          rw [h3, g3, hj]
        rw [if_pos hle, if_pos ⟨spanOk_iff.mpr ⟨h4, by show a ≤ b; omega, hle.2⟩, hx⟩]
      · rw [if_neg hle, if_neg]
        rintro ⟨q1, q2⟩
        obtain ⟨q3, q4, q5⟩ := spanOk_iff.mp q1
        have q4 : a ≤ b := q4
        have q5 : b ≤ 4000 := q5
        have eab : a = b := by omega
        have q2 : natT a = x := by
          unfold spanT at q2
          rw [if_pos (show (a, b).1 = (a, b).2 from eab)] at q2
          exact q2
        rw [← hj, h3] at q2
        have := congrArg Str.length q2
        rw [app_len, app_len] at this
        have e1 : dash.length = 1 := rfl
        omega
    | _ :: _ :: _ :: _, _, hl => simp at hl
theorem spl_count (c : Nat) : ∀ (l acc : List Nat), (spl [c] 0 acc l).length ≤ l.length + 1
  | [], acc => by rw [spl_nil]; simp
  | d :: r, acc => by
    by_cases h : d = c
    · rw [spl_hit (by rw [pre1]; exact decide_eq_true h)]
      have := spl_count c r []
      show (spl [c] 0 [] r).length + 1 ≤ r.length + 1 + 1
      omega
    · rw [spl_miss (by rw [pre1]; exact decide_eq_false h)]
      have := spl_count c r (acc ++ [d])
      show (spl [c] 0 (acc ++ [d]) r).length ≤ r.length + 1 + 1
      omega
theorem split_count (x : Str) {c : Nat} (hc : c < 256) : (Txt.split x (sgn c)).length ≤ x.length + 1 := by
  have h := congrArg List.length (split_tl x hc)
  rw [List.length_map] at h
  rw [h, len_tl]
  exact spl_count c _ _
theorem fm_pure {α : Type} (l : List α) (n : Nat) (h : l.length = n) : (List.range n).filterMap (fun i => l[i]?) = l := by
  subst h
  have := fm_some (fun a : α => a) l
  simpa using this
theorem oI_vs {K : PySem.W.Frag} {H : Hp} : ∀ {ys : List V} {l : List (Option Int)}, DpAll K H ys (l.map oID) → ys = l.map oI
  | _, [], .nil => rfl
  | _, none :: l, .cons a t => by
    cases a
    rw [oI_vs t]
    rfl
  | _, some i :: l, .cons a t => by
    cases a
    rw [oI_vs t]
    rfl
theorem oI_dp {K : PySem.W.Frag} {H : Hp} (o : Option Int) : Dp K H (oI o) (oID o) := by
  cases o with
  | none => exact .non
  | some i => exact .int i
theorem oI_flat (l : List (Option Int)) : (l.map oI).all flatV = true := by
  rw [List.all_map, List.all_eq_true]
  intro o _
  cases o <;> rfl
theorem inNon (l : List (Option Int)) : inV .non (l.map oI) = decide (none ∈ l) := by
  unfold inV
  rw [Bool.eq_iff_iff, List.any_map, List.any_eq_true, decide_eq_true_eq]
  constructor
  · rintro ⟨o, ho, e⟩
    cases o with
    | none => exact ho
    | some i => cases e
  · intro h
    exact ⟨none, h, rfl⟩
section
variable {P : Program} {w : World} {K : PySem.W.Frag} {mg : Str → Option Value} {base : Heap}
/-! ### is_stretch -/
def spIsStr (K : PySem.W.Frag) : Sp := fun vs H Q _ => ∃ (v : V) (s : Span), vs = [v] ∧ Dp K H v (spanD s) ∧ ∀ H', Same H H' → Q (.bl (spanOk s)) H'
theorem sc19 : FnScope ["value", "end"] ["value"] (defScope (topS 19)) := ⟨rfl, rfl, rfl, by decide +kernel, rfl, by decide +kernel, by decide +kernel⟩
theorem ok_isStr (G : Glb mg) (D : DnE K mg "is_stretch" 19 ["value"]) (A1 : OkF P w K mg base 1 "is_tuple_of" 15 ["value", "many"] (spTupOf K)) (A2 : OkF P w K mg base 2 "is_within" 14 ["value", "least", "greatest"] spWithin) :
    OkF P w K mg base 3 "is_stretch" 19 ["value"] (spIsStr K) := by
  obtain ⟨f, fd, D⟩ := D
  obtain ⟨f1, fd1, D1, G1⟩ := A1
  obtain ⟨f2, fd2, D2, G2⟩ := A2
  obtain ⟨tk, hM⟩ := G.mnum
  refine ⟨f, fd, D, D.F.ok sc19 (fun vs H Q E h => ?_) (fun cdv A outer s H vs Q E hr h => ?_)⟩
  · obtain ⟨v, s, rfl, _⟩ := h
    rfl
  · obtain ⟨v, sp, rfl, hv, k⟩ := h
    obtain ⟨a, rfl, ha⟩ := dp_span hv
    refine ⟨_, pss_cons (ps_if (PW.pt (pw_or (pt_not (pt_val (pe_call G1 (hr.mono (by decide)) rfl D1.m D1.F.kp D1.b .nil pass0 (pa_cons (pv 0) (pa_cons pe_int pa_nil)))))
      (pw_or1 (pt_not (pt_val (pe_callB (cr_all rfl) rfl G.all bAll (pa_cons
        (pe_lc (own := [("end", 1)]) (g := gName 1) (tt := tYes) rfl sc19.nd (pi_tup (pv 0)) (blkOk_by (N := ["value", "end"]) (sc := defScope (topS 19)) (by decide +kernel)) (fun _ _ _ _ _ => pg_name (i := 1) sc19.nd rfl (Or.inl rfl)) (fun _ _ _ _ _ => pts_nil)
          (fun _ _ _ _ _ => pe_call G2 (hr.mono (by decide)) rfl D2.m D2.F.kp D2.b .nil pass0 (pa_cons (pv 1) (pa_cons pe_int (pa_cons (pe_glob (v := .int 4000) rfl hM ⟨_, rfl⟩) pa_nil))))) pa_nil))))))) (pss_one (ps_ret pe_bl)) pss_nil)
      (pss_one (ps_ret (pe_cmpR op_le (pe_ix ix_tup (pv 0) pe_int (fun _ _ => rfl)) (pe_ix ix_tup (pv 0) pe_int (fun _ _ => rfl)) (nomark _)))), ?_⟩
    refine ⟨_, rfl, _, _, rfl, .inr ⟨a, _, rfl, ha, _, rfl, iteF ?_⟩⟩
    refine ⟨_, rfl, a, rfl, ⟨_, ha⟩, fun L hL => ?_⟩
    let fI : Int → PyData := fun i => .bool (decide (0 ≤ i) && decide (i ≤ 4000))
    refine lc_data (K := K) walk_tup (fun i => (([sp.1, sp.2] : List Int)[i]?).map fI) hL (by show 2 ≤ 4000; decide) (fun H2 s2 => sqT_same s2 ha) (fun i d e => ?_) (fun i v H2 H3 C hi s2 y c1 c2 => ?_) (fun H2 ys s2 hys r => ?_)
    · obtain ⟨c, _, rfl⟩ := Option.map_eq_some_iff.mp e
      simp [fI, flatD]
    · obtain ⟨rfl, hc⟩ := y
      have e0 : ([V.int sp.1, V.int sp.2] : List V)[i]? = (([sp.1, sp.2] : List Int)[i]?).map V.int := by
        rw [← List.getElem?_map]
        rfl
      rw [e0] at hc
      obtain ⟨c, hc', rfl⟩ := Option.map_eq_some_iff.mp hc
      refine ⟨rfl, tyes ?_⟩
      exact ⟨_, rfl, c, 0, 4000, rfl, c1 _ _ (fI c) (Same.refl _) (by rw [hc']; rfl) (.bl _)⟩
    · have e : (List.range ([V.int sp.1, V.int sp.2] : List V).length).filterMap (fun i => (([sp.1, sp.2] : List Int)[i]?).map fI) = ([decide (0 ≤ sp.1) && decide (sp.1 ≤ 4000), decide (0 ≤ sp.2) && decide (sp.2 ≤ 4000)] : List Bool).map PyData.bool := fm_some fI [sp.1, sp.2]
      rw [e] at r
      refine ⟨L, _, rfl, .of (hys.trans (congrArg (fun z => some (HO.lst z)) (dpAll_bools r))), _, rfl, ?_⟩
      have kk := k H2 s2
      have ea : ([decide (0 ≤ sp.1) && decide (sp.1 ≤ 4000), decide (0 ≤ sp.2) && decide (sp.2 ≤ 4000)] : List Bool).all id = (decide (0 ≤ sp.1) && decide (sp.1 ≤ 4000) && decide (0 ≤ sp.2) && decide (sp.2 ≤ 4000)) := by
        simp [Bool.and_assoc]
      rw [ea]
      unfold spanOk at kk
      cases eb : (decide (0 ≤ sp.1) && decide (sp.1 ≤ 4000) && decide (0 ≤ sp.2) && decide (sp.2 ≤ 4000)) with
      | false =>
        rw [eb, Bool.false_and] at kk
        exact iteT kk
      | true =>
        rw [eb, Bool.true_and] at kk
        refine iteF ?_
        have ha2 := sqT_same s2 ha
        exact ⟨_, rfl, a, _, 0, V.int sp.1, rfl, rfl, ha2, rfl, _, rfl, a, _, 1, V.int sp.2, rfl, rfl, ha2, rfl, _, _, rfl, rfl, kk⟩
/-! ### check_stretch -/
def spChkStr (K : PySem.W.Frag) : Sp := fun vs H Q _ => ∃ (v : V) (s : Span), vs = [v] ∧ Dp K H v (spanD s) ∧ spanOk s = true ∧ ∀ H', Same H H' → Q .non H'
theorem sc20 : FnScope ["value"] ["value"] (defScope (topS 20)) := ⟨rfl, rfl, rfl, by decide +kernel, rfl, by decide +kernel, by decide +kernel⟩
theorem ok_chkStr (G : Glb mg) (D : DnE K mg "check_stretch" 20 ["value"]) (A1 : OkF P w K mg base 3 "is_stretch" 19 ["value"] (spIsStr K)) : OkF P w K mg base 4 "check_stretch" 20 ["value"] (spChkStr K) := by
  obtain ⟨f, fd, D⟩ := D
  obtain ⟨f1, fd1, D1, G1⟩ := A1
  refine ⟨f, fd, D, D.F.ok sc20 (fun vs H Q E h => ?_) (fun cdv A outer s H vs Q E hr h => ?_)⟩
  · obtain ⟨v, s, rfl, _⟩ := h
    rfl
  · obtain ⟨v, sp, rfl, hv, ho, k⟩ := h
    refine ⟨_, pss_one (ps_if (pt_not (pt_val (pe_call G1 hr rfl D1.m D1.F.kp D1.b .nil pass0 (pa_cons (pv 0) pa_nil)))) pss_never pss_nil), ?_⟩
    refine ⟨_, rfl, v, sp, rfl, hv, fun H2 s2 => ⟨_, rfl, ?_⟩⟩
    rw [ho]
    exact iteF (k H2 s2)
/-! ### written_stretch -/
def spWrS (K : PySem.W.Frag) : Sp := fun vs H Q _ => ∃ (v : V) (s : Span), vs = [v] ∧ Dp K H v (spanD s) ∧ spanOk s = true ∧ Q (.str (spanT s)) H
theorem sc21 : FnScope ["stretch", "low", "high"] ["stretch"] (defScope (topS 21)) := ⟨rfl, rfl, rfl, by decide +kernel, rfl, by decide +kernel, by decide +kernel⟩
theorem ok_wrS (G : Glb mg) (D : DnE K mg "written_stretch" 21 ["stretch"]) : OkF P w K mg base 1 "written_stretch" 21 ["stretch"] (spWrS K) := by
  obtain ⟨f, fd, D⟩ := D
  refine ⟨f, fd, D, D.F.ok sc21 (fun vs H Q E h => ?_) (fun cdv A outer s H vs Q E hr h => ?_)⟩
  · obtain ⟨v, s, rfl, _⟩ := h
    rfl
  · obtain ⟨v, sp, rfl, hv, ho, k⟩ := h
    obtain ⟨a, rfl, ha⟩ := dp_span hv
    obtain ⟨z1, z2, z3⟩ := spanOk_iff.mp ho
    refine ⟨_, pss_cons (ps_asg (pv 0) (pg_tup rfl (pgs_cons (pg_name (i := 1) sc21.nd rfl (Or.inl rfl)) (pgs_cons (pg_name (i := 2) sc21.nd rfl (Or.inl rfl)) pgs_nil))))
      (pss_one (ps_ret (pe_ifExp (pt_cmpR op_eq (pv 1) (pv 2) (nomark _)) (pe_callTy call_str_int rfl G.str bStr (pa_cons (pv 1) pa_nil)) (pe_joined (.cons (pe_fmt (pv 1)) (.cons pe_str (.cons (pe_fmt (pv 2)) .nil))))))), ?_⟩
    refine ⟨_, rfl, a, _, rfl, ha, rfl, _, _, rfl, _, _, rfl, rfl, ?_⟩
    refine ⟨_, rfl, _, rfl, rfl, _, rfl, ?_⟩
    rw [intEq]
    unfold spanT at k
    have e1 : Str.ofString (toString sp.1) = natT sp.1 := rfl
    have l1 : sp.1.natAbs.log2 < 1920 := log_small z1 (by omega)
    have l2 : sp.2.natAbs.log2 < 1920 := log_small (by omega) (by omega)
    refine ite2 (fun h1 => ?_) (fun h1 => ?_)
    · have h1' : sp.1 = sp.2 := of_decide_eq_true h1
      rw [if_pos h1'] at k
      exact ⟨_, rfl, sp.1, rfl, l1, k⟩
    · have h1' : ¬ sp.1 = sp.2 := fun q => h1 (decide_eq_true q)
      rw [if_neg h1'] at k
      have n1 := natT_len z1 (show sp.1 < 10000 by omega)
      have n2 := natT_len (show 0 ≤ sp.2 by omega) (show sp.2 < 10000 by omega)
      refine ⟨_, rfl, .inr ⟨sp.1, rfl, l1, _, rfl, ?_, _, rfl, ?_, _, rfl, .inr ⟨sp.2, rfl, l2, _, rfl, ?_, ?_⟩⟩⟩
      · refine big4000 ?_
        rw [app_len]
        show 0 + (natT sp.1).length ≤ 4000
        omega
      · refine big4000 ?_
        rw [app_len, app_len]
        show 0 + (natT sp.1).length + 1 ≤ 4000
        omega
      · refine big4000 ?_
        rw [app_len, app_len, app_len]
        show 0 + (natT sp.1).length + 1 + (natT sp.2).length ≤ 4000
        omega
      · have e : Str.empty ++ natT sp.1 ++ Str.ofString "-" ++ natT sp.2 = natT sp.1 ++ dash ++ natT sp.2 := by rw [empty_app, str_dash]
        show Q (.str (Str.empty ++ natT sp.1 ++ Str.ofString "-" ++ natT sp.2)) H
        rw [e]
        exact k
/-! ### stretch_told -/
def spanO : Option Span → PyData
  | none => .none
  | some s => spanD s
def spStrT (K : PySem.W.Frag) : Sp := fun vs H Q _ => ∃ x : Str, vs = [.str x] ∧ TxtOk x ∧ ∀ v H', Same H H' → Dp K H' v (spanO (spanP x)) → Q v H'
theorem sc22 : FnScope ["word", "ends", "found", "part"] ["word"] (defScope (topS 22)) := ⟨rfl, rfl, rfl, by decide +kernel, rfl, by decide +kernel, by decide +kernel⟩
theorem ok_strT (G : Glb mg) (D : DnE K mg "stretch_told" 22 ["word"]) (A1 : OkF P w K mg base 1 "written_natural" 17 ["word"] spNat) (A2 : OkF P w K mg base 3 "is_stretch" 19 ["value"] (spIsStr K)) (A3 : OkF P w K mg base 1 "written_stretch" 21 ["stretch"] (spWrS K)) :
    OkF P w K mg base 4 "stretch_told" 22 ["word"] (spStrT K) := by
  obtain ⟨f, fd, D⟩ := D
  obtain ⟨f1, fd1, D1, G1⟩ := A1
  obtain ⟨f2, fd2, D2, G2⟩ := A2
  obtain ⟨f3, fd3, D3, G3⟩ := A3
  refine ⟨f, fd, D, D.F.ok sc22 (fun vs H Q E h => ?_) (fun cdv A outer s H vs Q E hr h => ?_)⟩
  · obtain ⟨x, rfl, _⟩ := h
    rfl
  · obtain ⟨x, rfl, hxx, k⟩ := h
    obtain ⟨hx, hxd⟩ := id hxx
    refine ⟨_, pss_cons (ps_setLc (i := 1) (own := [("part", 3)]) (g := gName 3) (tt := tYes) rfl sc22.nd rfl rfl (sw_true rfl rfl rfl (by decide +kernel)) (pi_list (pe_split (pv 0) pe_str)) (blkOk_by (N := ["word", "ends", "found", "part"]) (sc := defScope (topS 22)) (by decide +kernel))
        (fun _ _ _ _ _ => pg_name (i := 3) sc22.nd rfl (Or.inl rfl)) (fun _ _ _ _ _ => pts_nil) (fun _ _ _ _ _ => pe_call G1 (hr.mono (by decide)) rfl D1.m D1.F.kp D1.b .nil pass0 (pa_cons (pv 3) pa_nil)))
      (pss_cons (ps_if (PW.pt (pw_or (pt_cmpR op_in_seq pe_non (pv 1) (by with_unfolding_all rfl)) (pw_or1 (pt_cmpR op_gt (pe_callB call_len_seq rfl G.len bLen (pa_cons (pv 1) pa_nil)) pe_int (nomark _))))) (pss_one (ps_ret pe_non)) pss_nil)
      (pss_cons (ps_set (i := 2) sc22.nd rfl (Or.inl rfl) (pe_tup (pa_cons (pe_ix ix_list (pv 1) pe_int (fun _ _ => rfl)) (pa_cons (pe_ix ix_list (pv 1) (pe_un un_neg pe_int) (fun _ _ => rfl)) pa_nil))))
      (pss_one (ps_ret (pe_ifExp (PW.pt (pw_and (pt_val (pe_call G2 hr rfl D2.m D2.F.kp D2.b .nil pass0 (pa_cons (pv 2) pa_nil)))
        (pw_and1 (pt_cmpR op_eq (pe_call G3 (hr.mono (by decide)) rfl D3.m D3.F.kp D3.b .nil pass0 (pa_cons (pv 2) pa_nil)) (pv 0) (nomark _))))) (pv 2) pe_non))))), ?_⟩
    have zl : x.length ≤ 4000 := by omega
    refine ⟨_, rfl, ⟨_, rfl⟩, x, _, rfl, rfl, rfl, by rw [sizeLine_eq]; omega, fun p0 hp0 => ⟨p0, rfl, ⟨_, .of upd_same⟩, fun L hL => ?_⟩⟩
    rw [str_dash] at hL ⊢
    have s0 : Same H (upd H p0 (.lst ((Txt.split x dash).map V.str))) := Same.upd hp0
    have lenP : (Txt.split x dash).length ≤ 4000 := by
      exact Nat.le_trans (split_count x dash_lt) (by omega)
    refine lc_data (K := K) (walk_list (xs := (Txt.split x dash).map V.str)) (fun i => (((Txt.split x dash).map numP)[i]?).map oID) hL (by rw [List.length_map]; exact lenP) (fun H2 s2 => s2.seq (.of upd_same)) (fun i d e => ?_) (fun i v H2 H3 C hi s2 y c1 c2 => ?_) (fun H2 ys s2 hys r => ?_)
    · obtain ⟨c, _, rfl⟩ := Option.map_eq_some_iff.mp e
      cases c <;> simp [oID, flatD]
    · obtain ⟨rfl, hc⟩ := y
      rw [List.getElem?_map] at hc
      obtain ⟨q, hq, rfl⟩ := Option.map_eq_some_iff.mp hc
      refine ⟨rfl, tyes ?_⟩
      have lq : q.length ≤ x.length := split_len x dash_lt q (List.mem_of_getElem? hq)
      refine ⟨_, rfl, q, rfl, hxx.part dash_lt (List.mem_of_getElem? hq), fun H4 s4 => c1 _ _ (oID (numP q)) s4 ?_ (oI_dp _)⟩
      rw [List.getElem?_map, hq]
      rfl
    · have e : (List.range ((Txt.split x dash).map V.str).length).filterMap (fun i => (((Txt.split x dash).map numP)[i]?).map oID) = ((Txt.split x dash).map numP).map oID := by
        rw [List.length_map, ← List.length_map (f := numP)]
        exact fm_some oID _
      rw [e] at r
      have hys' : H2 L = some (.lst (((Txt.split x dash).map numP).map oI)) := hys.trans (congrArg (fun z => some (HO.lst z)) (oI_vs r))
      have sH : Same H H2 := s0.trans s2
      clear r hys
      -- None in ends or len(ends) > 2
      refine ⟨_, rfl, L, _, rfl, .inl (.of hys'), rfl, oI_flat _, _, rfl, ?_⟩
      show if inV V.non _ = true then _ else _
      rw [inNon]
      refine ite2 (fun h1 => ?_) (fun h1 => ?_)
      · have := k .non H2 sH (by rw [spanP_none (.inl (of_decide_eq_true h1))]; exact .non)
        exact iteT this
      · refine ⟨_, rfl, L, _, rfl, .inl (.of hys'), _, _, rfl, rfl, _, rfl, ?_⟩
        refine ite2 (fun h2 => ?_) (fun h2 => ?_)
        · have h2' : 2 < ((Txt.split x dash).map numP).length := by
            have := of_decide_eq_true h2
            rw [List.length_map] at this
            omega
          exact k .non H2 sH (by rw [spanP_none (.inr h2')]; exact .non)
        · obtain ⟨is, hi⟩ := numP_list (l := (Txt.split x dash).map numP) fun q => h1 (decide_eq_true q)
          rw [hi] at hys' h2
          have hl : is.length ≤ 2 := by
            have : ¬ (2 : Int) < ((((is.map some).map oI).length : Nat) : Int) := fun q => h2 (decide_eq_true q)
            rw [List.length_map, List.length_map] at this
            omega
          obtain ⟨a, b, ha, hb, hsp⟩ := spanP_code hi hl
          have g1 : atI ((is.map some).map oI) 0 = some (V.int a) := by
            cases is with
            | nil => cases ha
            | cons c r =>
              cases ha
              exact atI_nat (j := 0) rfl
          have g2 : atI ((is.map some).map oI) (-1) = some (V.int b) := atI_last (by rw [List.getLast?_map, List.getLast?_map, hb]; rfl)
          refine ⟨_, rfl, L, _, 0, _, rfl, rfl, .of hys', g1, _, rfl, 1, rfl, L, _, -1, _, rfl, rfl, .of hys', g2, by show 2 ≤ sizeLine; exact big4000 (by decide), fun t ht => ?_⟩
          have sT : Same H2 (upd H2 t (.tup [.int a, .int b])) := Same.upd ht
          have dT : Dp K (upd H2 t (.tup [.int a, .int b])) (.ref t) (spanD (a, b)) := dp_span_of (.of upd_same)
          refine ⟨_, rfl, _, (a, b), rfl, dT, fun H5 s5 => ⟨_, rfl, ?_⟩⟩
          have d5 := dp_same s5 dT
          have s5' : Same H H5 := (sH.trans sT).trans s5
          refine ite2 (fun h3 => ?_) (fun h3 => ?_)
          · refine ⟨_, rfl, _, (a, b), rfl, d5, h3, _, rfl, rfl, _, rfl, ?_⟩
            rw [strEq]
            refine ite2 (fun h4 => ?_) (fun h4 => ?_)
            · refine ⟨_, rfl, k _ H5 s5' ?_⟩
              rw [hsp, if_pos ⟨h3, of_decide_eq_true h4⟩]
              exact d5
            · refine k _ H5 s5' ?_
              rw [hsp, if_neg fun q => h4 (decide_eq_true q.2)]
              exact .non
          · refine iteF (k _ H5 s5' ?_)
            rw [hsp, if_neg fun q => h3 q.1]
            exact .non
end
end K3

/-! == and != of data without bools; is_line, line_text, line_told. -/
namespace K3
open PySem PySem.Spec PyProof.Rows L2 TL
mutual
/-- no bool, no dict within -/
def noB : PyData → Bool
  | .none => true
  | .bool _ => false
  | .int _ => true
  | .str _ => true
  | .list xs => noBs xs
  | .tuple xs => noBs xs
  | .dict _ => false
def noBs : List PyData → Bool
  | [] => true
  | d :: ds => noB d && noBs ds
end
mutual
theorem plain_noB : ∀ d : PyData, noB d = true → d.plain = true
  | .none, _ => rfl
  | .bool _, h => by simp [noB] at h
  | .int _, _ => rfl
  | .str _, _ => rfl
  | .list xs, h => by
    simp only [PyData.plain]
    exact plain_noBs xs (by simpa [noB] using h)
  | .tuple xs, h => by
    simp only [PyData.plain]
    exact plain_noBs xs (by simpa [noB] using h)
  | .dict _, h => by simp [noB] at h
theorem plain_noBs : ∀ ds : List PyData, noBs ds = true → PyData.plainAll ds = true
  | [], _ => rfl
  | d :: ds, h => by
    simp only [noBs, Bool.and_eq_true] at h
    simp only [PyData.plainAll, plain_noB d h.1, plain_noBs ds h.2, Bool.and_self]
end
mutual
theorem eqv_noB : ∀ d e : PyData, noB d = true → noB e = true → (PyData.eqv d e = true ↔ d = e)
  | .none, e, _, h => by cases e <;> simp [PyData.eqv]
  | .bool _, _, h, _ => by simp [noB] at h
  | .int i, e, _, h => by cases e <;> simp [PyData.eqv, noB] at h ⊢
  | .str i, e, _, h => by cases e <;> simp [PyData.eqv]
  | .list xs, e, h1, h => by
    cases e with
    | list ys =>
      have := eqv_noBs xs ys (by simpa [noB] using h1) (by simpa [noB] using h)
      simp only [PyData.eqv, this, PyData.list.injEq]
    | _ => simp [PyData.eqv]
  | .tuple xs, e, h1, h => by
    cases e with
    | tuple ys =>
      have := eqv_noBs xs ys (by simpa [noB] using h1) (by simpa [noB] using h)
      simp only [PyData.eqv, this, PyData.tuple.injEq]
    | _ => simp [PyData.eqv]
  | .dict _, _, h, _ => by simp [noB] at h
theorem eqv_noBs : ∀ ds es : List PyData, noBs ds = true → noBs es = true → (PyData.eqvAll ds es = true ↔ ds = es)
  | [], [], _, _ => by simp [PyData.eqvAll]
  | [], _ :: _, _, _ => by simp [PyData.eqvAll]
  | _ :: _, [], _, _ => by simp [PyData.eqvAll]
  | d :: ds, e :: es, h1, h2 => by
    simp only [noBs, Bool.and_eq_true] at h1 h2
    simp only [PyData.eqvAll, Bool.and_eq_true, eqv_noB d e h1.1 h2.1, eqv_noBs ds es h1.2 h2.2, List.cons.injEq]
end
theorem noBs_all : ∀ {ds : List PyData}, (∀ d ∈ ds, noB d = true) → noBs ds = true
  | [], _ => rfl
  | d :: ds, h => by
    simp only [noBs, h d List.mem_cons_self, noBs_all fun e he => h e (List.mem_cons_of_mem _ he), Bool.and_self]
theorem noB_span (s : Span) : noB (spanD s) = true := by simp [spanD, noB, noBs]
theorem noB_line (l : Line) : noB (lineD l) = true := by simp [lineD, noB, noBs, noB_span]
theorem noB_opt (o : Option Line) : noB (optD o) = true := by
  cases o with
  | none => simp [optD, noB]
  | some l => exact noB_line l
theorem noB_lines (ls : List Line) : noB (linesD ls) = true := by
  unfold linesD noB
  exact noBs_all fun d hd => by
    obtain ⟨l, _, e⟩ := List.mem_map.mp hd
    rw [← e]
    exact noB_line l
theorem noB_found (ls : List (Option Line)) : noB (foundD ls) = true := by
  unfold foundD noB
  exact noBs_all fun d hd => by
    obtain ⟨l, _, e⟩ := List.mem_map.mp hd
    rw [← e]
    exact noB_opt l
theorem noB_strs (ws : List Str) : noBs (ws.map PyData.str) = true := noBs_all fun d hd => by
  obtain ⟨l, _, e⟩ := List.mem_map.mp hd
  rw [← e]
  rfl
theorem depthAll_le {n : Nat} : ∀ {ds : List PyData}, (∀ d ∈ ds, d.depth ≤ n) → PyData.depthAll ds ≤ n
  | [], _ => Nat.zero_le _
  | d :: ds, h => by
    simp only [PyData.depthAll]
    exact Nat.max_le.mpr ⟨h d List.mem_cons_self, depthAll_le fun e he => h e (List.mem_cons_of_mem _ he)⟩
theorem depth_span (s : Span) : (spanD s).depth = 1 := by simp [spanD, PyData.depth, PyData.depthAll]
theorem depth_line (l : Line) : (lineD l).depth = 2 := by simp [lineD, PyData.depth, PyData.depthAll, depth_span]
theorem depth_opt (o : Option Line) : (optD o).depth ≤ 2 := by
  cases o with
  | none => simp [optD, PyData.depth]
  | some l => exact Nat.le_of_eq (depth_line l)
theorem depth_lines (ls : List Line) : (linesD ls).depth ≤ 3 := by
  unfold linesD
  simp only [PyData.depth]
  exact Nat.succ_le_succ (depthAll_le fun d hd => by
    obtain ⟨l, _, e⟩ := List.mem_map.mp hd
    rw [← e, depth_line]
    exact Nat.le_refl _)
theorem depth_found (ls : List (Option Line)) : (foundD ls).depth ≤ 3 := by
  unfold foundD
  simp only [PyData.depth]
  exact Nat.succ_le_succ (depthAll_le fun d hd => by
    obtain ⟨l, _, e⟩ := List.mem_map.mp hd
    rw [← e]
    exact depth_opt l)
theorem depth_strs (ws : List Str) : PyData.depthAll (ws.map PyData.str) ≤ 0 := depthAll_le fun d hd => by
  obtain ⟨l, _, e⟩ := List.mem_map.mp hd
  rw [← e]
  exact Nat.le_refl _
/-- what == of two data answers -/
def eqB (d e : PyData) : Bool := PyData.eqv d e
theorem eqB_eq {d e : PyData} (h1 : noB d = true) (h2 : noB e = true) {p : Prop} [Decidable p] (h : d = e ↔ p) : PyData.eqv d e = decide p := by
  rw [Bool.eq_iff_iff, eqv_noB d e h1 h2, decide_eq_true_eq]
  exact h
theorem line_inj {l m : Line} (h : lineD l = lineD m) : l = m := by
  obtain ⟨a, b, c, d⟩ := l
  obtain ⟨a', b', c', d'⟩ := m
  simp only [lineD, spanD, PyData.tuple.injEq, List.cons.injEq, PyData.str.injEq, PyData.int.injEq, and_true] at h
  obtain ⟨rfl, rfl, rfl, rfl⟩ := h
  rfl
theorem map_inj {α β : Type} {f : α → β} (hf : ∀ a b, f a = f b → a = b) : ∀ {l m : List α}, l.map f = m.map f → l = m
  | [], [], _ => rfl
  | [], _ :: _, h => by simp at h
  | _ :: _, [], h => by simp at h
  | a :: l, b :: m, h => by
    simp only [List.map_cons, List.cons.injEq] at h
    rw [hf _ _ h.1, map_inj hf h.2]
theorem lines_inj {ls ms : List Line} : linesD ls = linesD ms ↔ ls = ms :=
  ⟨fun h => map_inj (fun _ _ => line_inj) (PyData.tuple.inj h), fun h => by rw [h]⟩
section
variable {X : Cx}
def rEqP (K : PySem.W.Frag) : R2 := fun x y H Q => ∃ d e, Dp K H x d ∧ Dp K H y e ∧ noB d = true ∧ noB e = true ∧ d.depth ≤ 60 ∧ Q (.bl (PyData.eqv d e)) H
def rNeP (K : PySem.W.Frag) : R2 := fun x y H Q => ∃ d e, Dp K H x d ∧ Dp K H y e ∧ noB d = true ∧ noB e = true ∧ d.depth ≤ 60 ∧ Q (.bl (!PyData.eqv d e)) H
theorem op_eqP (hu : X.A.units + 64 < cLine) : OpR X (compareOp .Eq) (rEqP X.K) := by
  intro pins s σ H x y v u Q I rx ry h
  obtain ⟨d, e, hd, he, sd, se, hz, q⟩ := h
  obtain ⟨as, r1⟩ := Dp.reads I d x v hd rx
  obtain ⟨bs, r2⟩ := Dp.reads I e y u he ry
  exact SeqAt.eq_plain r1 r2 (plain_noB d sd) (plain_noB e se) (by omega) ⟨.bl _, H, I, rfl, q⟩
theorem op_neP (hu : X.A.units + 64 < cLine) : OpR X (compareOp .NotEq) (rNeP X.K) := by
  intro pins s σ H x y v u Q I rx ry h
  obtain ⟨d, e, hd, he, sd, se, hz, q⟩ := h
  obtain ⟨as, r1⟩ := Dp.reads I d x v hd rx
  obtain ⟨bs, r2⟩ := Dp.reads I e y u he ry
  exact SeqAt.ne_plain r1 r2 (plain_noB d sd) (plain_noB e se) (by omega) ⟨.bl _, H, I, rfl, q⟩
end
theorem strs_flat (ws : List Str) : (ws.map V.str).all flatV = true := by
  rw [List.all_map, List.all_eq_true]
  intro o _
  rfl
theorem inStr (x : Str) (ws : List Str) : inV (.str x) (ws.map V.str) = decide (x ∈ ws) := by
  unfold inV
  rw [Bool.eq_iff_iff, List.any_map, List.any_eq_true, decide_eq_true_eq]
  constructor
  · rintro ⟨o, ho, e⟩
    have e : (o == x) = true := e
    rw [← beq_iff_eq.mp e]
    exact ho
  · intro h
    exact ⟨x, h, beq_self_eq_true x⟩
section
variable {P : Program} {w : World} {K : PySem.W.Frag} {mg : Str → Option Value} {base : Heap}
/-! ### is_line -/
def lineB (ns : List Str) : Option Line → Bool
  | none => false
  | some l => lineOk ns l
def spIsLine (K : PySem.W.Frag) : Sp := fun vs H Q _ => ∃ (v : V) (o : Option Line) (n : Addr) (ns : List Str), vs = [v, .ref n] ∧ Dp K H v (optD o) ∧ (∀ l, o = some l → l.1.length ≤ 3000) ∧ SqL K H n (ns.map V.str) ∧ ∀ H', Same H H' → Q (.bl (lineB ns o)) H'
theorem sc24 : FnScope ["value", "names"] ["value", "names"] (defScope (topS 24)) := ⟨rfl, rfl, rfl, by decide +kernel, rfl, by decide +kernel, by decide +kernel⟩
theorem ok_isLine (G : Glb mg) (D : DnE K mg "is_line" 24 ["value", "names"]) (A1 : OkF P w K mg base 1 "is_tuple_of" 15 ["value", "many"] (spTupOf K)) (A2 : OkF P w K mg base 1 "is_name" 16 ["value"] spIsName)
    (A3 : OkF P w K mg base 3 "is_stretch" 19 ["value"] (spIsStr K)) : OkF P w K mg base 4 "is_line" 24 ["value", "names"] (spIsLine K) := by
  obtain ⟨f, fd, D⟩ := D
  obtain ⟨f1, fd1, D1, G1⟩ := A1
  obtain ⟨f2, fd2, D2, G2⟩ := A2
  obtain ⟨f3, fd3, D3, G3⟩ := A3
  refine ⟨f, fd, D, D.F.ok sc24 (fun vs H Q E h => ?_) (fun cdv A outer s H vs Q E hr h => ?_)⟩
  · obtain ⟨v, o, n, ns, rfl, _⟩ := h
    rfl
  · obtain ⟨v, o, n, ns, rfl, hv, hlen, hn, k⟩ := h
    refine ⟨_, pss_cons (ps_if (PW.pt (pw_or (pt_not (pt_val (pe_call G1 (hr.mono (by decide)) rfl D1.m D1.F.kp D1.b .nil pass0 (pa_cons (pv 0) (pa_cons pe_int pa_nil)))))
        (pw_or (pt_not (pt_val (pe_call G2 (hr.mono (by decide)) rfl D2.m D2.F.kp D2.b .nil pass0 (pa_cons (pe_ix ix_tup (pv 0) pe_int (fun _ _ => rfl)) pa_nil))))
        (pw_or1 (pt_cmpR op_in_seq (pe_ix ix_tup (pv 0) pe_int (fun _ _ => rfl)) (pv 1) (by with_unfolding_all rfl)))))) (pss_one (ps_ret pe_bl)) pss_nil)
      (pss_cons (ps_if (pt_cmpR (op_eqP hr.units) (pv 1) (pe_lst pa_nil) (nomark _))
        (pss_one (ps_ret (pe_and (pe_cmpR op_eq (pe_ix ix_tup (pv 0) pe_int (fun _ _ => rfl)) pe_str (nomark _))
          (pe_and (pe_callB call_isi rfl G.isi bIsi (pa_cons (pe_ix ix_tup (pv 0) pe_int (fun _ _ => rfl)) (pa_cons (pe_bltn (v := .ty "str") rfl G.str bStr rfl) pa_nil)))
          (pe_one (pe_call G3 hr rfl D3.m D3.F.kp D3.b .nil pass0 (pa_cons (pe_ix ix_tup (pv 0) pe_int (fun _ _ => rfl)) pa_nil)))))))
        pss_nil)
      (pss_one (ps_ret (pe_and (pe_callB call_isi rfl G.isi bIsi (pa_cons (pe_ix ix_tup (pv 0) pe_int (fun _ _ => rfl)) (pa_cons (pe_bltn (v := .ty "str") rfl G.str bStr rfl) pa_nil)))
          (pe_and (pe_cmpR op_in_seq (pe_ix ix_tup (pv 0) pe_int (fun _ _ => rfl)) (pv 1) (by with_unfolding_all rfl))
          (pe_one (pe_call G3 hr rfl D3.m D3.F.kp D3.b .nil pass0 (pa_cons (pe_ix ix_tup (pv 0) pe_int (fun _ _ => rfl)) pa_nil)))))))), ?_⟩
    cases o with
    | none =>
      have e : v = .non := by cases hv; rfl
      subst e
      exact ⟨_, rfl, _, _, rfl, .inl ⟨rfl, _, rfl, iteT (k H (Same.refl H))⟩⟩
    | some l =>
      obtain ⟨a, wv, rfl, ha, hw⟩ := dp_line hv
      refine ⟨_, rfl, _, _, rfl, .inr ⟨a, _, rfl, ha, _, rfl, iteF ?_⟩⟩
      refine ⟨_, rfl, a, _, 0, V.str l.1, rfl, rfl, ha, rfl, l.1, rfl, Nat.le_trans (hlen l rfl) (by decide), fun H2 s2 => ⟨_, rfl, ?_⟩⟩
      have ha2 := sqT_same s2 ha
      have hw2 := dp_same s2 hw
      have hn2 : SqL K H2 n (ns.map V.str) := s2.seq hn
      have k2 : ∀ H', Same H2 H' → Q (.bl (lineOk ns l)) H' := fun H' s' => k H' (s2.trans s')
      unfold lineOk at k2
      cases e1 : isTag l.1 with
      | false =>
        have := k2 H2 (Same.refl _)
        rw [e1] at this
        exact iteT this
      | true =>
        refine iteF ?_
        refine ⟨_, rfl, a, _, 0, V.str l.1, rfl, rfl, ha2, rfl, _, rfl, n, _, rfl, .inl hn2, rfl, strs_flat ns, _, rfl, ?_⟩
        show if inV (V.str l.1) (ns.map V.str) = true then _ else _
        rw [inStr]
        refine ite2 (fun h2 => ?_) (fun h2 => ?_)
        · have := k2 H2 (Same.refl _)
          rw [e1, h2] at this
          exact this
        · have e2 : decide (l.1 ∈ ns) = false := Bool.eq_false_iff.mpr h2
          rw [e1, e2] at k2
          -- names == []
          refine ⟨_, rfl, by decide, fun p hp => ⟨.list (ns.map PyData.str), .list [], ?_, .lst (.of upd_same) .nil, ?_, rfl, ?_, _, rfl, ?_⟩⟩
          · have s3 : Same H2 (upd H2 p (.lst [])) := Same.upd hp
            exact .lst (s3.seq hn2) (dpAll_ofStrs ns)
          · simp only [noB, noB_strs]
          · simp only [PyData.depth]
            have := depth_strs ns
            omega
          · have s3 : Same H2 (upd H2 p (.lst [])) := Same.upd hp
            have ha3 := sqT_same s3 ha2
            have hw3 := dp_same s3 hw2
            have hn3 : SqL K (upd H2 p (.lst [])) n (ns.map V.str) := s3.seq hn2
            have k3 : ∀ H', Same (upd H2 p (.lst [])) H' → _ := fun H' s' => k2 H' (s3.trans s')
            rw [eqB_eq (p := ns = []) (by simp only [noB, noB_strs]) rfl ⟨fun h => by
              have := PyData.list.inj h
              cases ns with
              | nil => rfl
              | cons _ _ => simp at this, fun h => by rw [h]; rfl⟩]
            refine ite2 (fun h3 => ?_) (fun h3 => ?_)
            · have h3' : ns = [] := of_decide_eq_true h3
              refine ⟨_, rfl, a, _, 1, V.str l.2.1, rfl, rfl, ha3, rfl, rfl, _, rfl, ?_⟩
              rw [strEq, str_empty]
              have k4 := fun H' s' => k3 H' s'
              simp only [if_pos h3'] at k4
              cases e4 : decide (l.2.1 = Str.empty) with
              | false =>
                rw [e4] at k4
                exact iteF (k4 _ (Same.refl _))
              | true =>
                rw [e4] at k4
                refine iteT ?_
                refine ⟨_, rfl, a, _, 1, V.str l.2.1, rfl, rfl, ha3, rfl, _, _, _, _, true, rfl, .ty "str", .base (.str _), kit_ty (by decide +kernel), _, rfl, iteT ?_⟩
                refine ⟨_, rfl, a, _, 2, wv, rfl, rfl, ha3, rfl, wv, l.2.2, rfl, hw3, fun H5 s5 => ?_⟩
                exact k4 H5 s5
            · have h3' : ¬ ns = [] := fun q => h3 (decide_eq_true q)
              have k4 := fun H' s' => k3 H' s'
              simp only [if_neg h3'] at k4
              refine ⟨_, rfl, a, _, 1, V.str l.2.1, rfl, rfl, ha3, rfl, _, _, _, _, true, rfl, .ty "str", .base (.str _), kit_ty (by decide +kernel), _, rfl, iteT ?_⟩
              refine ⟨_, rfl, a, _, 1, V.str l.2.1, rfl, rfl, ha3, rfl, _, rfl, n, _, rfl, .inl hn3, rfl, strs_flat ns, _, rfl, ?_⟩
              show if inV (V.str l.2.1) (ns.map V.str) = true then _ else _
              rw [inStr]
              cases e4 : decide (l.2.1 ∈ ns) with
              | false =>
                rw [e4] at k4
                exact iteF (k4 _ (Same.refl _))
              | true =>
                rw [e4] at k4
                refine iteT ?_
                refine ⟨_, rfl, a, _, 2, wv, rfl, rfl, ha3, rfl, wv, l.2.2, rfl, hw3, fun H5 s5 => ?_⟩
                exact k4 H5 s5
end
end K3

/-! line_text, line_told. -/
namespace K3
open PySem PySem.Spec PyProof.Rows L2 TL
theorem str_area : (Str.ofString "area" : Str) = areaS := rfl
theorem rowP_none {x : Str} (h : (Txt.split x spc).length ≠ 4) : rowP x = none := by
  unfold rowP
  split
  · rename_i e
    rw [e] at h
    exact absurd rfl h
  · rfl
section
variable {P : Program} {w : World} {K : PySem.W.Frag} {mg : Str → Option Value} {base : Heap}
def spLineT (K : PySem.W.Frag) : Sp := fun vs H Q _ => ∃ (v : V) (l : Line), vs = [v, .str areaS] ∧ Dp K H v (lineD l) ∧ l.1.length ≤ 600 ∧ l.2.1.length ≤ 600 ∧ spanOk l.2.2 = true ∧ Q (.str (lineT l)) H
theorem sc25 : FnScope ["line", "word", "name", "parent", "stretch"] ["line", "word"] (defScope (topS 25)) := ⟨rfl, rfl, rfl, by decide +kernel, rfl, by decide +kernel, by decide +kernel⟩
theorem ok_lineT (G : Glb mg) (D : DnE K mg "line_text" 25 ["line", "word"]) (A1 : OkF P w K mg base 1 "written_stretch" 21 ["stretch"] (spWrS K)) : OkF P w K mg base 2 "line_text" 25 ["line", "word"] (spLineT K) := by
  obtain ⟨f, fd, D⟩ := D
  obtain ⟨f1, fd1, D1, G1⟩ := A1
  refine ⟨f, fd, D, D.F.ok sc25 (fun vs H Q E h => ?_) (fun cdv A outer s H vs Q E hr h => ?_)⟩
  · obtain ⟨v, l, rfl, _⟩ := h
    rfl
  · obtain ⟨v, l, rfl, hv, h1, h2, h3, k⟩ := h
    obtain ⟨a, wv, rfl, ha, hw⟩ := dp_line hv
    refine ⟨_, pss_cons (ps_asg (pv 0) (pg_tup rfl (pgs_cons (pg_name (i := 2) sc25.nd rfl (Or.inl rfl)) (pgs_cons (pg_name (i := 3) sc25.nd rfl (Or.inl rfl)) (pgs_cons (pg_name (i := 4) sc25.nd rfl (Or.inl rfl)) pgs_nil)))))
      (pss_one (ps_ret (pe_joined (.cons (pe_fmt (pv 1)) (.cons pe_str (.cons (pe_fmt (pv 2)) (.cons pe_str
        (.cons (pe_fmt (pe_ifExp (pt_cmpR op_ne (pv 3) pe_str (nomark _)) (pv 3) pe_str)) (.cons pe_str
        (.cons (pe_fmt (pe_call G1 hr rfl D1.m D1.F.kp D1.b .nil pass0 (pa_cons (pv 4) pa_nil))) .nil)))))))))), ?_⟩
    refine ⟨_, rfl, a, _, rfl, ha, rfl, _, _, rfl, _, _, rfl, _, _, rfl, rfl, ?_⟩
    have la : areaS.length = 4 := by decide +kernel
    have l9 := spanT_len h3
    have lp : (paT l.2.1).length ≤ 600 := by
      unfold paT
      split
      · decide
      · exact h2
    have fin : ∀ y : Str, y.length ≤ 4000 → y.length ≤ sizeLine := fun y hy => big4000 hy
    have e0 : (Str.ofString " ").length = 1 := rfl
    have z0 : Str.empty.length = 0 := rfl
    have e1 : (Str.ofString "area").length = 4 := la
    refine ⟨_, rfl, .inl ⟨areaS, rfl, big4000 (by omega), _, rfl, fin _ (by rw [app_len]; omega), _, rfl, fin _ (by rw [app_len, app_len]; omega), ?_⟩⟩
    refine ⟨_, rfl, .inl ⟨l.1, rfl, big4000 (by omega), _, rfl, fin _ (by rw [app_len, app_len, app_len]; omega), _, rfl, fin _ (by rw [app_len, app_len, app_len, app_len]; omega), ?_⟩⟩
    refine ⟨_, rfl, rfl, _, rfl, ?_⟩
    rw [strEq, str_empty]
    refine ite2 (fun hq => ?_) (fun hq => ?_)
    · have ep : l.2.1 = paT l.2.1 := by
        unfold paT
        rw [if_neg]
        intro q
        rw [q] at hq
        simp at hq
      refine ⟨_, rfl, ?_⟩
      refine .inl ⟨l.2.1, rfl, big4000 (by omega), _, rfl, fin _ (by simp only [app_len]; omega), _, rfl, fin _ (by simp only [app_len]; omega), ?_⟩
      refine ⟨_, rfl, wv, l.2.2, rfl, hw, h3, .inl ⟨spanT l.2.2, rfl, big4000 (by omega), _, rfl, fin _ (by simp only [app_len]; omega), ?_⟩⟩
      show Q (.str (Str.empty ++ areaS ++ Str.ofString " " ++ l.1 ++ Str.ofString " " ++ l.2.1 ++ Str.ofString " " ++ spanT l.2.2)) H
      rw [ep, empty_app, str_spc]
      exact k
    · have ep : Str.ofString "-" = paT l.2.1 := by
        unfold paT
        rw [if_pos, str_dash]
        by_cases q : l.2.1 = Str.empty
        · exact q
        · simp [q] at hq
      have e2 : (Str.ofString "-").length = 1 := rfl
      refine .inl ⟨(Str.ofString "-"), rfl, big4000 (by omega), _, rfl, fin _ (by simp only [app_len]; omega), _, rfl, fin _ (by simp only [app_len]; omega), ?_⟩
      refine ⟨_, rfl, wv, l.2.2, rfl, hw, h3, .inl ⟨spanT l.2.2, rfl, big4000 (by omega), _, rfl, fin _ (by simp only [app_len]; omega), ?_⟩⟩
      show Q (.str (Str.empty ++ areaS ++ Str.ofString " " ++ l.1 ++ Str.ofString " " ++ (Str.ofString "-") ++ Str.ofString " " ++ spanT l.2.2)) H
      rw [ep, empty_app, str_spc]
      exact k
/-! ### line_told -/
def spLineTold (K : PySem.W.Frag) : Sp := fun vs H Q _ => ∃ x : Str, vs = [.str x, .str areaS] ∧ TxtOk x ∧ ∀ v H', Same H H' → Dp K H' v (optD (rowP x)) → Q v H'
theorem sc26 : FnScope ["text", "word", "words", "stretch"] ["text", "word"] (defScope (topS 26)) := ⟨rfl, rfl, rfl, by decide +kernel, rfl, by decide +kernel, by decide +kernel⟩
theorem ok_lineTold (G : Glb mg) (D : DnE K mg "line_told" 26 ["text", "word"]) (A1 : OkF P w K mg base 4 "stretch_told" 22 ["word"] (spStrT K)) : OkF P w K mg base 5 "line_told" 26 ["text", "word"] (spLineTold K) := by
  obtain ⟨f, fd, D⟩ := D
  obtain ⟨f1, fd1, D1, G1⟩ := A1
  refine ⟨f, fd, D, D.F.ok sc26 (fun vs H Q E h => ?_) (fun cdv A outer s H vs Q E hr h => ?_)⟩
  · obtain ⟨x, rfl, _⟩ := h
    rfl
  · obtain ⟨x, rfl, hxx, k⟩ := h
    obtain ⟨hx, hxd⟩ := id hxx
    refine ⟨_, pss_cons (ps_set (i := 2) sc26.nd rfl (Or.inl rfl) (pe_split (pv 0) pe_str))
      (pss_cons (ps_if (PW.pt (pw_or (pt_cmpR op_ne (pe_callB call_len_seq rfl G.len bLen (pa_cons (pv 2) pa_nil)) pe_int (nomark _))
        (pw_or (pt_cmpR op_ne (pe_ix ix_list (pv 2) pe_int (fun _ _ => rfl)) (pv 1) (nomark _)) (pw_or1 (pt_cmpR op_eq (pe_ix ix_list (pv 2) pe_int (fun _ _ => rfl)) pe_str (nomark _)))))) (pss_one (ps_ret pe_non)) pss_nil)
      (pss_cons (ps_set (i := 3) sc26.nd rfl (Or.inl rfl) (pe_call G1 hr rfl D1.m D1.F.kp D1.b .nil pass0 (pa_cons (pe_ix ix_list (pv 2) pe_int (fun _ _ => rfl)) pa_nil)))
      (pss_one (ps_ret (pe_ifExp (pt_cmp (pc_isN (pv 3))) pe_non (pe_tup (pa_cons (pe_ix ix_list (pv 2) pe_int (fun _ _ => rfl))
        (pa_cons (pe_ifExp (pt_cmpR op_eq (pe_ix ix_list (pv 2) pe_int (fun _ _ => rfl)) pe_str (nomark _)) pe_str (pe_ix ix_list (pv 2) pe_int (fun _ _ => rfl))) (pa_cons (pv 3) pa_nil))))))))), ?_⟩
    have zl : x.length ≤ 4000 := by omega
    refine ⟨_, rfl, ⟨_, rfl⟩, x, _, rfl, rfl, rfl, by rw [sizeLine_eq]; omega, fun p hp => ?_⟩
    rw [str_spc]
    have s0 : Same H (upd H p (.lst ((Txt.split x spc).map V.str))) := Same.upd hp
    have hl0 : SqL K (upd H p (.lst ((Txt.split x spc).map V.str))) p ((Txt.split x spc).map V.str) := .of upd_same
    have hws := split_len x (show (32 : Nat) < 256 by decide)
    generalize hH : upd H p (.lst ((Txt.split x spc).map V.str)) = H1 at s0 hl0
    have none_ : rowP x = none → Q .non H1 := fun e => k _ _ s0 (by rw [e]; exact .non)
    refine ⟨_, rfl, p, _, rfl, .inl hl0, rfl, _, rfl, ?_⟩
    rw [intEq, List.length_map]
    refine ite2 (fun h1 => ?_) (fun h1 => ?_)
    · refine iteT (none_ (rowP_none fun q => ?_))
      rw [q] at h1
      simp at h1
    · have h4 : (Txt.split x spc).length = 4 := by
        by_cases q : (Txt.split x spc).length = 4
        · exact q
        · exact absurd (by
            have : ¬ (((Txt.split x spc).length : Nat) : Int) = 4 := by omega
            rw [decide_eq_false this]
            rfl) h1
      have hrow : rowP x = match Txt.split x spc with
        | [w0, w1, w2, w3] => if w0 = areaS ∧ w2 ≠ Str.empty then (spanP w3).map fun s => (w1, (if w2 = dash then Str.empty else w2), s) else none
        | _ => none := rfl
      match hw : Txt.split x spc, h4 with
      | [w0, w1, w2, w3], _ =>
        rw [hw] at hrow hl0 hws
        have hrow : rowP x = if w0 = areaS ∧ w2 ≠ Str.empty then (spanP w3).map fun s => (w1, (if w2 = dash then Str.empty else w2), s) else none := hrow
        refine ⟨_, rfl, p, _, 0, V.str w0, rfl, rfl, hl0, rfl, _, rfl, rfl, _, rfl, ?_⟩
        rw [strEq]
        refine ite2 (fun h2 => ?_) (fun h2 => ?_)
        · refine iteT (none_ ?_)
          rw [hrow, if_neg]
          rintro ⟨q, _⟩
          rw [q] at h2
          simp at h2
        · have h2' : w0 = areaS := by
            by_cases q : w0 = areaS
            · exact q
            · simp [q] at h2
          refine ⟨_, rfl, p, _, 2, V.str w2, rfl, rfl, hl0, rfl, rfl, _, rfl, ?_⟩
          rw [strEq, str_empty]
          refine ite2 (fun h3 => ?_) (fun h3 => ?_)
          · refine none_ ?_
            rw [hrow, if_neg]
            rintro ⟨_, q⟩
            exact q (of_decide_eq_true h3)
          · have h3' : w2 ≠ Str.empty := fun q => h3 (decide_eq_true q)
            rw [if_pos ⟨h2', h3'⟩] at hrow
            have l3 := hws w3 (by simp)
            refine ⟨_, rfl, p, _, 3, V.str w3, rfl, rfl, hl0, rfl, w3, rfl, hxx.part (show (32 : Nat) < 256 by decide) (by rw [hw]; simp), fun v3 H3 s3 d3 => ?_⟩
            have hl3 : SqL K H3 p _ := s3.seq hl0
            cases es : spanP w3 with
            | none =>
              rw [es] at d3 hrow
              have ev : v3 = .non := by cases d3; rfl
              subst ev
              refine ⟨_, rfl, _, rfl, iteT (k _ _ (s0.trans s3) ?_)⟩
              rw [hrow]
              exact .non
            | some sp =>
              rw [es] at d3 hrow
              obtain ⟨b, rfl, hb⟩ := dp_span d3
              refine ⟨_, rfl, _, rfl, iteF ?_⟩
              refine ⟨_, rfl, p, _, 1, V.str w1, rfl, rfl, hl3, rfl, _, rfl, p, _, 2, V.str w2, rfl, rfl, hl3, rfl, rfl, _, rfl, ?_⟩
              rw [strEq, str_dash]
              have fin : ∀ (pa : Str), pa = (if w2 = dash then Str.empty else w2) → ∀ t, H3 t = none → Q (.ref t) (upd H3 t (.tup [.str w1, .str pa, .ref b])) := by
                intro pa hpa t ht
                have st : Same H3 (upd H3 t (.tup [.str w1, .str pa, .ref b])) := Same.upd ht
                refine k _ _ ((s0.trans s3).trans st) ?_
                rw [hrow]
                subst hpa
                exact dp_line_of (l := (w1, (if w2 = dash then Str.empty else w2), sp)) (.of upd_same) (dp_same st d3)
              refine ite2 (fun h5 => ?_) (fun h5 => ?_)
              · exact ⟨_, rfl, by show 3 ≤ sizeLine; exact big4000 (by decide), fin _ (by rw [if_pos (of_decide_eq_true h5)])⟩
              · exact ⟨_, rfl, p, _, 2, V.str w2, rfl, rfl, hl3, rfl, _, rfl, by show 3 ≤ sizeLine; exact big4000 (by decide), fin _ (by rw [if_neg fun q => h5 (decide_eq_true q)])⟩
end
end K3

/-! Areas.__init__. -/
namespace K3
open PySem PySem.Spec PyProof.Rows L2 TL
abbrev sAr (j : Nat) : Stmt := inClass (topS 27) j
theorem kLT : ¬ (("own_lines" : Str) = "own_text") := by decide +kernel
def flds (v : V) (t : Str) : List (Str × V) := putF "own_text" (.str t) (putF "own_lines" v [])
theorem flds_lines (v : V) (t : Str) : (flds v t).lookup ("own_lines" : Str) = some v := by
  unfold flds
  rw [lookup_putF, if_neg kLT, lookup_putF, if_pos rfl]
theorem flds_text (v : V) (t : Str) : (flds v t).lookup ("own_text" : Str) = some (.str t) := by
  unfold flds
  rw [lookup_putF, if_pos rfl]
theorem flds_no (v : V) (t : Str) {m : Str} (h1 : ¬ m = "own_text") (h2 : ¬ m = "own_lines") : (flds v t).lookup m = none := by
  unfold flds
  rw [lookup_putF, if_neg h1, lookup_putF, if_neg h2]
  rfl
/-- an Areas of the lines ls at a -/
def AreasAt (K : PySem.W.Frag) (C : Addr) (H : Hp) (a : Addr) (ls : List Line) : Prop := ∃ dx v, H a = some (.ins C dx (flds v (pageT ls))) ∧ Dp K H v (linesD ls) ∧ Good ls
theorem AreasAt.kt {K : PySem.W.Frag} {C : Addr} {H H' : Hp} {a : Addr} {ls : List Line} (h : AreasAt K C H a ls) (k : KT H H') : AreasAt K C H' a ls := by
  obtain ⟨dx, v, h1, h2, h3⟩ := h
  exact ⟨dx, v, k _ _ h1 (fun _ z => nomatch z) (fun _ z => nomatch z), dp_kt k _ _ (flat_lines ls) h2, h3⟩
theorem AreasAt.same {K : PySem.W.Frag} {C : Addr} {H H' : Hp} {a : Addr} {ls : List Line} (h : AreasAt K C H a ls) (k : Same H H') : AreasAt K C H' a ls := h.kt (.of k)
/-- what the walk asks of the class -/
structure ArT (K : PySem.W.Frag) (mg : Str → Option Value) (C : Addr) : Prop where
  cl : Cls K C
  nL : NoAttr K C "own_lines"
  nT : NoAttr K C "own_text"
  mgC : mg "Areas" = some (.ref C)
  kp : PySem.W.keepIn K (.ref C) = true
theorem shL : InitShape (inClass (topS 6) 0) "index" where
  body := ⟨_, _, _, _, _, _, _, _, _, _, rfl, fun env => ⟨_, rfl⟩⟩
  kS := by decide +kernel
  kF := by decide +kernel
  kU := by decide +kernel
  kC := by decide +kernel
  kind := rfl
  nocell := by decide +kernel
  co := rfl
  gen := rfl
  head := ⟨_, rfl, rfl⟩
  bind := fun _ _ _ _ _ _ _ _ _ _ => rfl
  ne := by decide +kernel
  nd := by decide +kernel
theorem shT : InitShape (inClass (topS 4) 0) "given" where
  body := ⟨_, _, _, _, _, _, _, _, _, _, rfl, fun env => ⟨_, rfl⟩⟩
  kS := by decide +kernel
  kF := by decide +kernel
  kU := by decide +kernel
  kC := by decide +kernel
  kind := rfl
  nocell := by decide +kernel
  co := rfl
  gen := rfl
  head := ⟨_, rfl, rfl⟩
  bind := fun _ _ _ _ _ _ _ _ _ _ => rfl
  ne := by decide +kernel
  nd := by decide +kernel
/-- an own error class as it stands: its name's value too -/
structure ErN (K : PySem.W.Frag) (mg : Str → Option Value) (P : Program) (nm : Str) (i : Nat) (fld : Str) (C fI : Addr) : Prop where
  T : ErrC K P (inClass (topS i) 0) (nm ++ ".__init__") C fI fld
  m : mg nm = some (.ref C)
def AnyP : Prop := True
theorem sum_le (m : Nat) : ∀ {l : List Nat}, (∀ x ∈ l, x ≤ m) → l.sum ≤ l.length * m
  | [], _ => by simp
  | x :: l, h => by
    have h1 := h x List.mem_cons_self
    have h2 := sum_le m fun y hy => h y (List.mem_cons_of_mem _ hy)
    simp only [List.sum_cons, List.length_cons, Nat.add_mul, Nat.one_mul]
    omega
theorem opt_at {K : PySem.W.Frag} {H : Hp} {vs : List V} {os : List (Option Line)} {i : Nat} {v : V} (h : DpAll K H vs (os.map optD)) (hi : vs[i]? = some v) : ∃ o, os[i]? = some o ∧ Dp K H v (optD o) := by
  obtain ⟨d, hd, q⟩ := dpAll_at h hi
  rw [List.getElem?_map] at hd
  obtain ⟨o, ho, e⟩ := Option.map_eq_some_iff.mp hd
  subst e
  exact ⟨o, ho, q⟩
theorem okFrom_bad {names : List Str} {o : Option Line} {r : List (Option Line)} (h : names.length = 10 ∨ lineB names o = false) : okFrom names (o :: r) = false := by
  cases o with
  | none => rfl
  | some l =>
    unfold okFrom
    rcases h with h | h
    · rw [h]
      rfl
    · have h : lineOk names l = false := h
      rw [h]
      simp
theorem okFrom_good {names : List Str} {l : Line} {r : List (Option Line)} (h1 : names.length < 10) (h2 : lineOk names l = true) : okFrom names (some l :: r) = okFrom (names ++ [l.1]) r := by
  show (decide (names.length < 10) && lineOk names l && okFrom (names ++ [l.1]) r) = _
  rw [h2, decide_eq_true h1]
  rfl
section
variable {P : Program} {w : World} {K : PySem.W.Frag} {mg : Str → Option Value} {base : Heap}
def spInit (K : PySem.W.Frag) (C CL : Addr) : Sp := fun vs H Q E => ∃ (p dx : Addr) (v : V) (os : List (Option Line)), vs = [.ref p, v] ∧ H p = some (.ins C dx []) ∧ Dp K H v (foundD os) ∧ (∀ l, some l ∈ os → l.1.length ≤ 3000) ∧ os.length ≤ 3100 ∧
  (okAll os = false → ∀ d H', Same H H' → E (.ref CL) (some d) H') ∧
  (okAll os = true → ∀ H', (∀ b o, H b = some o → b ≠ p → H' b = some o) → H' p = some (.ins C dx (flds v (pageT (allSome os)))) → Q .non H')
theorem scAI : FnScope ["self", "lines", "names", "index", "value", "line"] ["self", "lines"] (defScope (sAr 0)) := ⟨rfl, rfl, rfl, by decide +kernel, rfl, by decide +kernel, by decide +kernel⟩
theorem ok_init {C CL fL : Addr} {f : Addr} {fd : FuncData} (G : Glb mg) (T : ArT K mg C) (D : Fun K "__init__" "Areas.__init__" (sAr 0) f fd) (hsup : mg "super" = none) (R : ErrC K P (inClass (topS 6) 0) "InvalidLines.__init__" CL fL "index") (mR : mg "InvalidLines" = some (.ref CL))
    (A1 : OkF P w K mg base 4 "is_line" 24 ["value", "names"] (spIsLine K)) (A2 : OkF P w K mg base 2 "line_text" 25 ["line", "word"] (spLineT K)) :
    FnOk P w K mg base (L2.CX P w) 5 f fd ["self", "lines"] (spInit K C CL) := by
  obtain ⟨f1, fd1, D1, G1⟩ := A1
  obtain ⟨f2, fd2, D2, G2⟩ := A2
  obtain ⟨tk, hM⟩ := G.mlin
  refine D.okX scAI (fun vs H Q E h => ?_) (fun cdv A outer s H vs Q E hr h => ?_)
  · obtain ⟨p, dx, v, os, rfl, _⟩ := h
    rfl
  · obtain ⟨p, dx, v, os, rfl, hp, hv, hlen, hos, kE, k⟩ := h
    refine ⟨_, pss_cons (ps_if (PW.pt (pw_or (pt_not (pt_val (pe_callB call_isi rfl G.isi bIsi (pa_cons (pv 1) (pa_cons (pe_bltn (v := .ty "tuple") rfl G.tup bTup rfl) pa_nil)))))
        (pw_or1 (pt_cmpR (op_eqP hr.units) (pv 1) (pe_tup pa_nil) (nomark _))))) (pss_one (ps_raiseE rfl shL R hsup hr mR (takes_of rfl rfl rfl rfl) (pa_cons pe_non pa_nil) rfl)) pss_nil)
      (pss_cons (ps_set (i := 2) scAI.nd rfl (Or.inl rfl) (pe_lst pa_nil))
      (pss_cons (ps_for (passes_of rfl) rfl (pi_enumT rfl G.enu (pa_cons (pv 1) pa_nil)) (pg_tup rfl (pgs_cons (pg_name (i := 3) scAI.nd rfl (Or.inl rfl)) (pgs_cons (pg_name (i := 4) scAI.nd rfl (Or.inl rfl)) pgs_nil)))
        (pss_cons (ps_if (PW.pt (pw_or (pt_cmpR op_eq (pv 3) (pe_glob (v := .int 10) rfl hM ⟨_, rfl⟩) (nomark _)) (pw_or1 (pt_not (pt_val (pe_call G1 hr rfl D1.m D1.F.kp D1.b .nil pass0 (pa_cons (pv 4) (pa_cons (pv 2) pa_nil))))))))
          (pss_one (ps_raiseE rfl shL R hsup hr mR (takes_of rfl rfl rfl rfl) (pa_cons (pv 3) pa_nil) rfl)) pss_nil)
        (pss_one (ps_expr (pe_bm PySem.F.plainAttrs_list PySem.F.slot_list_append PySem.F.type_list_append mt_append (pv 2) (pa_cons (pe_ix ix_tup (pv 4) pe_int (fun _ _ => rfl)) pa_nil))))))
      (pss_cons (ps_fld (pv 0) (pv 1) rfl)
      (pss_one (ps_fld (pv 0) (pe_join pe_str (pe_lc (own := [("line", 5)]) (g := gName 5) (tt := tYes) rfl scAI.nd (pi_tup (pv 1)) (blkOk_by (N := ["self", "lines", "names", "index", "value", "line"]) (sc := defScope (sAr 0)) (by decide +kernel)) (fun _ _ _ _ _ => pg_name (i := 5) scAI.nd rfl (Or.inl rfl)) (fun _ _ _ _ _ => pts_nil)
          (fun _ _ _ _ _ => pe_call G2 (hr.mono (by decide)) rfl D2.m D2.F.kp D2.b .nil pass0 (pa_cons (pv 5) (pa_cons pe_str pa_nil))))) rfl))))), ?_⟩
    obtain ⟨va, vs, rfl, hva, hvs⟩ := dp_found hv
    have lvs : vs.length = os.length := by
      rw [dpAll_len hvs, List.length_map]
    refine ⟨_, rfl, _, _, _, _, true, rfl, .ty "tuple", tyx_tup hva, kit_ty (by decide +kernel), _, rfl, iteF ?_⟩
    refine ⟨_, rfl, by decide, fun q hq => ⟨foundD os, .tuple [], ?_, .tup (.of upd_same) .nil, noB_found os, rfl, Nat.le_trans (depth_found os) (by decide), _, rfl, ?_⟩⟩
    · exact dp_same (Same.upd hq) hv
    have s1 : Same H (upd H q (.tup [])) := Same.upd hq
    generalize hH1 : upd H q (.tup []) = H1 at s1
    rw [eqB_eq (p := os = []) (noB_found os) rfl ⟨fun h => by
      have := PyData.tuple.inj h
      cases os with
      | nil => rfl
      | cons _ _ => simp at this, fun h => by rw [h]; rfl⟩]
    refine ite2 (fun he => ?_) (fun he => ?_)
    · have he' : os = [] := of_decide_eq_true he
      subst he'
      exact ⟨_, rfl, fun d hd => kE rfl d _ (s1.trans (Same.upd hd))⟩
    · have hne : os ≠ [] := fun q => he (decide_eq_true q)
      -- names = []
      refine ⟨by decide, fun n hn => ?_⟩
      have s2 : Same H (upd H1 n (.lst [])) := s1.trans (Same.upd hn)
      have hnH : H n = none := s1.free hn
      have npn : p ≠ n := ne_of_none hp hnH
      have bad : okFrom [] os = false → okAll os = false := fun e => by
        unfold okAll
        rw [e, Bool.and_false]
      refine ⟨_, rfl, va, vs, rfl, sqT_same s2 hva, ?_⟩
      refine for_it (K3.walk_enumT (K := K) (a := va) (xs := vs)) (fun i σ H2 => ∃ (ns : List Str) (x y : Option V), σ = [some (.ref p), some (.ref va), some (.ref n), x, y, none] ∧ Same H H2 ∧ H2 n = some (.lst (ns.map V.str)) ∧ ns.length = i ∧ i ≤ 10 ∧ okFrom [] os = okFrom ns (os.drop i))
        ⟨[], none, none, rfl, s2, upd_same, rfl, Nat.zero_le _, rfl⟩ (fun i σ H2 _ ⟨_, _, _, _, s, _⟩ => sqT_same s hva) ?_ ?_
      · rintro i x σ H2 H3 hi ⟨ns, ix, iy, rfl, s3, hn3, hnl, hi10, hok⟩ ⟨t, xi, xv, rfl, hT, rfl, exi, hxv⟩
        obtain rfl := Option.some.inj exi
        obtain ⟨o, ho, hxo⟩ := opt_at (dpAll_same s3 hvs) hxv
        have hdrop : os.drop i = o :: os.drop (i + 1) := by
          have hlt := (List.getElem?_eq_some_iff.mp ho)
          obtain ⟨h1, h2⟩ := hlt
          rw [List.drop_eq_getElem_cons h1, h2]
        have s4 : Same H2 (upd H2 t (.tup [.int (i : Nat), xv])) := Same.upd hT
        have s4' := s3.trans s4
        have hn4 := s4 _ _ hn3
        have hxo4 := dp_same s4 hxo
        have hT4 : SqT K (upd H2 t (.tup [.int (i : Nat), xv])) t [.int (i : Nat), xv] := .of upd_same
        generalize upd H2 t (.tup [.int (i : Nat), xv]) = H4 at *
        refine ⟨t, _, rfl, hT4, rfl, _, _, rfl, _, _, rfl, rfl, ?_⟩
        refine ⟨_, rfl, rfl, _, rfl, ?_⟩
        rw [intEq]
        have hbad : (ns.length = 10 ∨ lineB ns o = false) → okAll os = false := fun z => bad (by rw [hok, hdrop]; exact okFrom_bad z)
        refine ite2 (fun h1 => ?_) (fun h1 => ?_)
        · have h1' : ns.length = 10 := by
            have := of_decide_eq_true h1
            omega
          exact ⟨_, rfl, _, rfl, fun d hd => kE (hbad (.inl h1')) d _ (s4'.trans (Same.upd hd))⟩
        · have h1' : i < 10 := by
            have : ¬ (i : Int) = 10 := fun q => h1 (decide_eq_true q)
            omega
          refine ⟨_, rfl, _, rfl, _, o, n, ns, rfl, hxo4, fun l hl => hlen l (by rw [← hl]; exact List.mem_of_getElem? ho), .of hn4, fun H5 s5 => ⟨_, rfl, ?_⟩⟩
          have hn5 := s5 _ _ hn4
          have s5' := s4'.trans s5
          have hxo5 := dp_same s5 hxo4
          cases hb : lineB ns o with
          | false => exact iteT ⟨_, rfl, _, rfl, fun d hd => kE (hbad (.inr hb)) d _ (s5'.trans (Same.upd hd))⟩
          | true =>
            refine iteF ?_
            cases o with
            | none => cases hb
            | some l =>
              obtain ⟨b, wv, rfl, hbt, _⟩ := dp_line hxo5
              refine ⟨_, rfl, .inl ⟨rfl, _, .of hn5⟩, _, rfl, b, _, 0, V.str l.1, rfl, rfl, hbt, rfl, n, _, _, rfl, rfl, hn5, ?_, ?_⟩
              · rw [List.length_map]
                have : 4000 < sizeLine := by rw [sizeLine_eq]; omega
                omega
              · refine ⟨ns ++ [l.1], _, _, rfl, fun c u hc => ?_, ?_, ?_, by omega, ?_⟩
                · rw [upd_ne (ne_of_none hc hnH)]
                  exact s5' _ _ hc
                · rw [upd_same, List.map_append]
                  rfl
                · rw [List.length_append, hnl]
                  rfl
                · rw [hok, hdrop]
                  exact okFrom_good (by omega) hb
      · rintro σ H2 ⟨ns, ix, iy, rfl, s3, hn3, hnl, hi10, hok⟩
        have hall : okFrom [] os = true := by
          rw [hok, show os.drop vs.length = [] by rw [lvs]; exact List.drop_length]
          rfl
        have hok' : okAll os = true := by
          unfold okAll
          rw [hall]
          cases os with
          | nil => exact absurd rfl hne
          | cons _ _ => rfl
        have eos := okFrom_some hall
        generalize hls : allSome os = ls at eos
        have hg : Good ls := by
          unfold Good
          rw [← eos]
          exact hok'
        rw [eos, found_some] at hv
        rw [eos] at hvs
        have hvs' : DpAll K H vs (ls.map lineD) := by
          have e : (ls.map some).map optD = ls.map lineD := by
            rw [List.map_map]
            rfl
          rw [← e]
          exact hvs
        have hp2 := s3 _ _ hp
        refine ⟨_, rfl, _, rfl, p, C, dx, [], rfl, hp2, T.cl, T.nL, by decide, ?_⟩
        generalize hH3 : upd H2 p (.ins C dx (putF "own_lines" (V.ref va) [])) = H3
        have but3 : ∀ b o, H b = some o → b ≠ p → H3 b = some o := fun b o hb hbp => by
          rw [← hH3, upd_ne hbp]
          exact s3 _ _ hb
        have hp3 : H3 p = some (.ins C dx (putF "own_lines" (V.ref va) [])) := by
          rw [← hH3, upd_same]
        have tk3 : TK H H3 := by
          refine ⟨fun b xs hb => but3 b _ hb fun z => ?_, fun b o xs hb => but3 b _ hb fun z => ?_⟩
          · rw [z, hp] at hb
            cases hb
          · rw [z, hp] at hb
            cases hb
        have hva3 := sqT_tk tk3 hva
        have fls : flatDs (ls.map lineD) = true := flatDs_all fun d hd => by
          obtain ⟨l, _, e⟩ := List.mem_map.mp hd
          rw [← e]
          exact flat_line l
        have hvs3 := dpAll_tk tk3 _ _ fls hvs'
        have lls : vs.length = ls.length := by
          rw [dpAll_len hvs', List.length_map]
        have hten := good_len hg
        -- self.own_text = ..
        refine ⟨⟨_, rfl⟩, _, rfl, va, rfl, ⟨_, hva3⟩, fun L hL => ?_⟩
        refine lc_data (K := K) (walk_tup (xs := vs)) (fun i => ((ls.map lineT)[i]?).map PyData.str) hL (by omega) (fun H4 s4 => sqT_same s4 hva3) (fun i d e => ?_) (fun i x H4 H5 CC hi s4 y c1 c2 => ?_) (fun H4 ys s4 hys r => ?_)
        · obtain ⟨c, _, rfl⟩ := Option.map_eq_some_iff.mp e
          simp [flatD]
        · obtain ⟨rfl, hx⟩ := y
          obtain ⟨l, hl, hxl⟩ := lines_at (dpAll_same s4 hvs3) hx
          have hm := List.mem_of_getElem? hl
          have ht := isTag_len (good_tag hg l hm)
          have hpa : l.2.1.length ≤ 600 := by
            rcases good_pa hg l hm with z | z
            · rw [z]
              decide
            · have := isTag_len z
              omega
          refine ⟨rfl, tyes ?_⟩
          refine ⟨_, rfl, x, l, rfl, hxl, by omega, hpa, good_span hg l hm, c1 _ _ (.str (lineT l)) (Same.refl _) ?_ (.str _)⟩
          rw [List.getElem?_map, hl]
          rfl
        · have e : (List.range vs.length).filterMap (fun i => ((ls.map lineT)[i]?).map PyData.str) = (ls.map lineT).map PyData.str := by
            rw [lls, ← List.length_map (f := lineT)]
            exact fm_some PyData.str _
          rw [e] at r
          have hys' := hys.trans (congrArg (fun z => some (HO.lst z)) (dpAll_strs r))
          refine ⟨_, L, ls.map lineT, rfl, rfl, .inl (.of hys'), ?_, ?_⟩
          · have h1 : ((ls.map lineT).map (·.length)).sum ≤ ((ls.map lineT).map (·.length)).length * 32 := sum_le 32 fun z hz => by
              obtain ⟨u, hu, rfl⟩ := List.mem_map.mp hz
              obtain ⟨l, hl, rfl⟩ := List.mem_map.mp hu
              exact lineT_len (good_tag hg l hl) (good_pa hg l hl) (good_span hg l hl)
            have e1 : (Str.ofString "\n").length = 1 := rfl
            rw [List.length_map, List.length_map] at h1
            rw [List.length_map, e1]
            omega
          · refine ⟨_, rfl, p, C, dx, _, rfl, s4 _ _ hp3, T.cl, T.nT, by show 1 < 1000; decide, ?_⟩
            refine k hok' _ (fun b o hb hbp => ?_) ?_
            · rw [upd_ne hbp]
              exact s4 _ _ (but3 b o hb hbp)
            · rw [upd_same, hls, str_nl]
              rfl
end
end K3

/-! Areas: lines, names, leaves, text, len, bool, str, ==; check_area. -/
namespace K3
open PySem PySem.Spec PyProof.Rows L2 TL
/-- a property, a method of Areas as they stand -/
def PrE (K : PySem.W.Frag) (C : Addr) (f : Str) (j : Nat) (p g : Addr) (fd : FuncData) : Prop := PropOf K C f p g ∧ Fun K f ("Areas." ++ f) (sAr j) g fd ∧ Binds K fd ["self"] []
def MeE (K : PySem.W.Frag) (C : Addr) (f : Str) (j : Nat) (ps : List Str) (g : Addr) (fd : FuncData) : Prop := Meth K C f g ∧ Fun K f ("Areas." ++ f) (sAr j) g fd ∧ Binds K fd ps []
section
variable (P : Program) (w : World) (K : PySem.W.Frag) (mg : Str → Option Value) (base : Heap)
def PrOk (k : Nat) (C : Addr) (f : Str) (j : Nat) (sp : Sp) : Prop := ∃ p g fd, PrE K C f j p g fd ∧ FnOk P w K mg base CX0 k g fd ["self"] sp
def MeOk (k : Nat) (C : Addr) (f : Str) (j : Nat) (ps : List Str) (sp : Sp) : Prop := ∃ g fd, MeE K C f j ps g fd ∧ FnOk P w K mg base CX0 k g fd ps sp
end
def strsD (ws : List Str) : PyData := .tuple (ws.map PyData.str)
def leavesT (ls : List Line) : List Str := (ls.filter fun l => !decide (l.1 ∈ ls.map (·.2.1))).map (·.1)
def innerT (ls : List Line) (x : Str) : List Str := (ls.filter fun l => decide (l.2.1 = x)).map (·.1)
theorem flat_strs (ws : List Str) : flatD (strsD ws) = true := by
  unfold strsD flatD
  exact flatDs_all fun d hd => by
    obtain ⟨l, _, e⟩ := List.mem_map.mp hd
    rw [← e]
    rfl
theorem dp_strs {K : PySem.W.Frag} {H : Hp} {v : V} {ws : List Str} (h : Dp K H v (strsD ws)) : ∃ a, v = .ref a ∧ SqT K H a (ws.map V.str) := by
  cases h with
  | tup q r =>
    rw [dpAll_strs r] at q
    exact ⟨_, rfl, q⟩
theorem dp_strs_of {K : PySem.W.Frag} {H : Hp} {a : Addr} {ws : List Str} (h : SqT K H a (ws.map V.str)) : Dp K H (.ref a) (strsD ws) := .tup h (dpAll_ofStrs ws)
theorem fm_filter {α β : Type} (p : α → Bool) (F : α → β) : ∀ l : List α, (List.range l.length).filterMap (fun i => (l[i]?).bind fun a => if p a = true then some (F a) else none) = (l.filter p).map F
  | [] => rfl
  | a :: l => by
    rw [List.length_cons, List.range_succ_eq_map, List.filterMap_cons]
    have e : (List.map Nat.succ (List.range l.length)).filterMap (fun i => ((a :: l)[i]?).bind fun a => if p a = true then some (F a) else none) = (l.filter p).map F := by
      rw [List.filterMap_map]
      exact fm_filter p F l
    rw [e]
    cases h : p a with
    | true => simp [h, List.filter_cons]
    | false => simp [h, List.filter_cons]
section
variable {P : Program} {w : World} {K : PySem.W.Frag} {mg : Str → Option Value} {base : Heap} {C : Addr}
/-! ### lines -/
def spLines (K : PySem.W.Frag) (C : Addr) : Sp := fun vs H Q _ => ∃ a ls, vs = [.ref a] ∧ AreasAt K C H a ls ∧ ∀ v, Dp K H v (linesD ls) → Q v H
theorem scA2 : FnScope ["self"] ["self"] (defScope (sAr 2)) := ⟨rfl, rfl, rfl, by decide +kernel, rfl, by decide +kernel, by decide +kernel⟩
theorem ok_lines {p g : Addr} {fd : FuncData} (T : ArT K mg C) (D : PrE K C "lines" 2 p g fd) : PrOk P w K mg base 1 C "lines" 2 (spLines K C) := by
  refine ⟨p, g, fd, D, D.2.1.ok scA2 (fun vs H Q E h => ?_) (fun cdv A outer s H vs Q E hr h => ?_)⟩
  · obtain ⟨a, ls, rfl, _⟩ := h
    rfl
  · obtain ⟨a, ls, rfl, ⟨dx, v, h1, h2, h3⟩, k⟩ := h
    refine ⟨_, pss_one (ps_ret (pe_fld (pv 0) rfl)), ?_⟩
    exact ⟨_, rfl, a, C, dx, _, _, rfl, h1, T.cl, T.nL, flds_lines _ _, k v h2⟩
/-! ### names -/
def spNames (K : PySem.W.Frag) (C : Addr) : Sp := fun vs H Q _ => ∃ a ls, vs = [.ref a] ∧ AreasAt K C H a ls ∧ ∀ b o H', Same H H' → H' b = some (.frz o (.tup ((ls.map (·.1)).map V.str))) → o.dict = none → Q (.ref b) H'
theorem scA3 : FnScope ["self", "line"] ["self"] (defScope (sAr 3)) := ⟨rfl, rfl, rfl, by decide +kernel, rfl, by decide +kernel, by decide +kernel⟩
theorem ok_names {p g : Addr} {fd : FuncData} (G : Glb mg) (T : ArT K mg C) (D : PrE K C "names" 3 p g fd) : PrOk P w K mg base 1 C "names" 3 (spNames K C) := by
  refine ⟨p, g, fd, D, D.2.1.ok scA3 (fun vs H Q E h => ?_) (fun cdv A outer s H vs Q E hr h => ?_)⟩
  · obtain ⟨a, ls, rfl, _⟩ := h
    rfl
  · obtain ⟨a, ls, rfl, ⟨dx, v, h1, h2, h3⟩, k⟩ := h
    obtain ⟨va, vs, rfl, hva, hvs⟩ := dp_lines h2
    have hten := good_len h3
    have lvs : vs.length = ls.length := by rw [dpAll_len hvs, List.length_map]
    refine ⟨_, pss_one (ps_ret (pe_callTy call_tuple_fz rfl G.tup bTup (pa_cons (pe_lc (own := [("line", 1)]) (g := gName 1) (tt := tYes) rfl scA3.nd (pi_tup (pe_fld (pv 0) rfl)) (blkOk_by (N := ["self", "line"]) (sc := defScope (sAr 3)) (by decide +kernel))
      (fun _ _ _ _ _ => pg_name (i := 1) scA3.nd rfl (Or.inl rfl)) (fun _ _ _ _ _ => pts_nil) (fun _ _ _ _ _ => pe_ix (r := rIxT K) ix_tup (pv 1) pe_int (fun _ _ => rfl))) pa_nil))), ?_⟩
    refine ⟨_, rfl, a, C, dx, _, _, rfl, h1, T.cl, T.nL, flds_lines _ _, va, rfl, ⟨_, hva⟩, fun L hL => ?_⟩
    refine lc_data (K := K) (walk_tup (xs := vs)) (fun i => (ls[i]?).map fun l => PyData.str l.1) hL (by omega) (fun H4 s4 => sqT_same s4 hva) (fun i d e => ?_) (fun i x H4 H5 CC hi s4 y c1 c2 => ?_) (fun H4 ys s4 hys r => ?_)
    · obtain ⟨c, _, rfl⟩ := Option.map_eq_some_iff.mp e
      simp [flatD]
    · obtain ⟨rfl, hx⟩ := y
      obtain ⟨l, hl, hxl⟩ := lines_at (dpAll_same s4 hvs) hx
      obtain ⟨b, wv, rfl, hb, _⟩ := dp_line hxl
      refine ⟨rfl, tyes ?_⟩
      refine ⟨_, rfl, b, _, 0, V.str l.1, rfl, rfl, hb, rfl, c1 _ _ (.str l.1) (Same.refl _) ?_ (.str _)⟩
      rw [hl]
      rfl
    · have e : (List.range vs.length).filterMap (fun i => (ls[i]?).map fun l => PyData.str l.1) = (ls.map (·.1)).map PyData.str := by
        rw [lvs, List.map_map]
        exact fm_some (fun l : Line => PyData.str l.1) ls
      rw [e] at r
      have hys' := hys.trans (congrArg (fun z => some (HO.lst z)) (dpAll_strs r))
      refine ⟨L, _, rfl, .of hys', fun q o ho hq => ?_⟩
      exact k _ o _ (s4.trans (Same.upd hq)) upd_same ho
/-! ### text, len, bool, str -/
def spStr (K : PySem.W.Frag) (C : Addr) : Sp := fun vs H Q _ => ∃ a ls, vs = [.ref a] ∧ AreasAt K C H a ls ∧ Q (.str (pageT ls)) H
theorem scA11 : FnScope ["self"] ["self"] (defScope (sAr 11)) := ⟨rfl, rfl, rfl, by decide +kernel, rfl, by decide +kernel, by decide +kernel⟩
theorem ok_str {g : Addr} {fd : FuncData} (T : ArT K mg C) (D : MeE K C "__str__" 11 ["self"] g fd) : MeOk P w K mg base 1 C "__str__" 11 ["self"] (spStr K C) := by
  refine ⟨g, fd, D, D.2.1.ok scA11 (fun vs H Q E h => ?_) (fun cdv A outer s H vs Q E hr h => ?_)⟩
  · obtain ⟨a, ls, rfl, _⟩ := h
    rfl
  · obtain ⟨a, ls, rfl, ⟨dx, v, h1, h2, h3⟩, k⟩ := h
    refine ⟨_, pss_one (ps_ret (pe_joined1 (pe_fmt (pe_fld (pv 0) rfl)))), ?_⟩
    exact ⟨_, rfl, a, C, dx, _, _, rfl, h1, T.cl, T.nT, flds_text _ _, .inl ⟨_, rfl, big4000 (by have := page_len h3; omega), k⟩⟩
def spLen (K : PySem.W.Frag) (C : Addr) : Sp := fun vs H Q _ => ∃ a ls, vs = [.ref a] ∧ AreasAt K C H a ls ∧ Q (.int (ls.length : Nat)) H
theorem scA9 : FnScope ["self"] ["self"] (defScope (sAr 9)) := ⟨rfl, rfl, rfl, by decide +kernel, rfl, by decide +kernel, by decide +kernel⟩
theorem ok_len {g : Addr} {fd : FuncData} (G : Glb mg) (T : ArT K mg C) (D : MeE K C "__len__" 9 ["self"] g fd) : MeOk P w K mg base 1 C "__len__" 9 ["self"] (spLen K C) := by
  refine ⟨g, fd, D, D.2.1.ok scA9 (fun vs H Q E h => ?_) (fun cdv A outer s H vs Q E hr h => ?_)⟩
  · obtain ⟨a, ls, rfl, _⟩ := h
    rfl
  · obtain ⟨a, ls, rfl, ⟨dx, v, h1, h2, h3⟩, k⟩ := h
    obtain ⟨va, vs, rfl, hva, hvs⟩ := dp_lines h2
    have lvs : vs.length = ls.length := by rw [dpAll_len hvs, List.length_map]
    refine ⟨_, pss_one (ps_ret (pe_callB call_len_seq rfl G.len bLen (pa_cons (pe_fld (pv 0) rfl) pa_nil))), ?_⟩
    refine ⟨_, rfl, a, C, dx, _, _, rfl, h1, T.cl, T.nL, flds_lines _ _, va, vs, rfl, .inr hva, ?_⟩
    rw [lvs]
    exact k
def spBool (K : PySem.W.Frag) (C : Addr) : Sp := fun vs H Q _ => ∃ a : Addr, vs = [.ref a] ∧ Q (.bl true) H
theorem scA10 : FnScope ["self"] ["self"] (defScope (sAr 10)) := ⟨rfl, rfl, rfl, by decide +kernel, rfl, by decide +kernel, by decide +kernel⟩
theorem ok_bool {g : Addr} {fd : FuncData} (D : MeE K C "__bool__" 10 ["self"] g fd) : MeOk P w K mg base 1 C "__bool__" 10 ["self"] (spBool K C) := by
  refine ⟨g, fd, D, D.2.1.ok scA10 (fun vs H Q E h => ?_) (fun cdv A outer s H vs Q E hr h => ?_)⟩
  · obtain ⟨a, rfl, _⟩ := h
    rfl
  · obtain ⟨a, rfl, k⟩ := h
    exact ⟨_, pss_one (ps_ret pe_bl), k⟩
/-- str(x) by __str__ -/
theorem fnR_of {k : Nat} {g : Addr} {fd : FuncData} {ps : List Str} {sp : Sp} (F : FnOk P w K mg base CX0 k g fd ps sp) (b : Binds K fd ps []) : FnR P w K mg base CX0 k g sp := (F.raw b .nil).imp fun vs H Q E h => by
  rw [List.append_nil]
  exact h
theorem scA5 : FnScope ["self"] ["self"] (defScope (sAr 5)) := ⟨rfl, rfl, rfl, by decide +kernel, rfl, by decide +kernel, by decide +kernel⟩
theorem ok_text {p g : Addr} {fd : FuncData} (G : Glb mg) (D : PrE K C "text" 5 p g fd) (A : MeOk P w K mg base 1 C "__str__" 11 ["self"] (spStr K C)) : PrOk P w K mg base 4 C "text" 5 (spStr K C) := by
  obtain ⟨g1, fd1, D1, G1⟩ := A
  refine ⟨p, g, fd, D, D.2.1.ok scA5 (fun vs H Q E h => ?_) (fun cdv A outer s H vs Q E hr h => ?_)⟩
  · obtain ⟨a, ls, rfl, _⟩ := h
    rfl
  · obtain ⟨a, ls, rfl, hA, k⟩ := h
    obtain ⟨dx, v, h1, _⟩ := id hA
    refine ⟨_, pss_one (ps_ret (pe_callTy (call_strO (C := C) (E := E0) D1.1.at_ D1.1.fn (fnR_of G1 D1.2.2) hr pass0) rfl G.str bStr (pa_cons (pv 0) pa_nil))), ?_⟩
    exact ⟨_, rfl, a, dx, _, rfl, h1, a, ls, rfl, hA, _, rfl, k⟩
end
end K3

/-! Areas: leaves, ==, check_area, stretch, inner. -/
namespace K3
open PySem PySem.Spec PyProof.Rows L2 TL
section
variable {P : Program} {w : World} {K : PySem.W.Frag} {mg : Str → Option Value} {base : Heap} {C : Addr}
/-! ### leaves -/
def spLeaves (K : PySem.W.Frag) (C : Addr) : Sp := fun vs H Q _ => ∃ a ls, vs = [.ref a] ∧ AreasAt K C H a ls ∧ ∀ v H', Same H H' → Dp K H' v (strsD (leavesT ls)) → Q v H'
theorem scA4 : FnScope ["self", "parents", "line"] ["self"] (defScope (sAr 4)) := ⟨rfl, rfl, rfl, by decide +kernel, rfl, by decide +kernel, by decide +kernel⟩
theorem ok_leaves {p g : Addr} {fd : FuncData} (G : Glb mg) (T : ArT K mg C) (D : PrE K C "leaves" 4 p g fd) : PrOk P w K mg base 1 C "leaves" 4 (spLeaves K C) := by
  refine ⟨p, g, fd, D, D.2.1.ok scA4 (fun vs H Q E h => ?_) (fun cdv A outer s H vs Q E hr h => ?_)⟩
  · obtain ⟨a, ls, rfl, _⟩ := h
    rfl
  · obtain ⟨a, ls, rfl, ⟨dx, v, h1, h2, h3⟩, k⟩ := h
    obtain ⟨va, vs, rfl, hva, hvs⟩ := dp_lines h2
    have hten := good_len h3
    have lvs : vs.length = ls.length := by rw [dpAll_len hvs, List.length_map]
    refine ⟨_, pss_cons (ps_set (i := 1) scA4.nd rfl (Or.inr rfl) (pe_lc (own := [("line", 2)]) (g := gName 2) (tt := tYes) rfl scA4.nd (pi_tup (pe_fld (pv 0) rfl)) (blkOk_by (N := ["self", "parents", "line"]) (sc := defScope (sAr 4)) (by decide +kernel))
        (fun _ _ _ _ _ => pg_name (i := 2) scA4.nd rfl (Or.inl rfl)) (fun _ _ _ _ _ => pts_nil) (fun _ _ _ _ _ => pe_ix (r := rIxT K) ix_tup (pv 2) pe_int (fun _ _ => rfl))))
      (pss_one (ps_ret (pe_callTy call_tuple_of rfl G.tup bTup (pa_cons (pe_lc (own := [("line", 2)]) (g := gName 2) (tt := tTest (tOp (rIn K true) (tOp (rIxT K) (tVar 2) (tC (.int 0))) (tVar 1))) rfl scA4.nd (pi_tup (pe_fld (pv 0) rfl)) (blkOk_by (N := ["self", "parents", "line"]) (sc := defScope (sAr 4)) (by decide +kernel))
        (fun _ _ _ _ _ => pg_name (i := 2) scA4.nd rfl (Or.inl rfl)) (fun _ _ _ _ _ => pts_one (pt_cmpR op_notIn_seq (pe_ix (r := rIxT K) ix_tup (pv 2) pe_int (fun _ _ => rfl)) (pv 1) (by with_unfolding_all rfl))) (fun _ _ _ _ _ => pe_ix (r := rIxT K) ix_tup (pv 2) pe_int (fun _ _ => rfl))) pa_nil)))), ?_⟩
    refine ⟨_, rfl, a, C, dx, _, _, rfl, h1, T.cl, T.nL, flds_lines _ _, va, rfl, ⟨_, hva⟩, fun L hL => ?_⟩
    refine lc_data (K := K) (walk_tup (xs := vs)) (fun i => (ls[i]?).map fun l => PyData.str l.2.1) hL (by omega) (fun H4 s4 => sqT_same s4 hva) (fun i d e => ?_) (fun i x H4 H5 CC hi s4 y c1 c2 => ?_) (fun H4 ys s4 hys r => ?_)
    · obtain ⟨c, _, rfl⟩ := Option.map_eq_some_iff.mp e
      simp [flatD]
    · obtain ⟨rfl, hx⟩ := y
      obtain ⟨l, hl, hxl⟩ := lines_at (dpAll_same s4 hvs) hx
      obtain ⟨b, wv, rfl, hb, _⟩ := dp_line hxl
      refine ⟨rfl, tyes ?_⟩
      refine ⟨_, rfl, b, _, 1, V.str l.2.1, rfl, rfl, hb, rfl, c1 _ _ (.str l.2.1) (Same.refl _) ?_ (.str _)⟩
      rw [hl]
      rfl
    · have e : (List.range vs.length).filterMap (fun i => (ls[i]?).map fun l => PyData.str l.2.1) = (ls.map (·.2.1)).map PyData.str := by
        rw [lvs, List.map_map]
        exact fm_some (fun l : Line => PyData.str l.2.1) ls
      rw [e] at r
      have hys' := hys.trans (congrArg (fun z => some (HO.lst z)) (dpAll_strs r))
      have hva4 := sqT_same s4 hva
      have hvs4 := dpAll_same s4 hvs
      refine ⟨_, rfl, a, C, dx, _, _, rfl, s4 _ _ h1, T.cl, T.nL, flds_lines _ _, va, rfl, ⟨_, hva4⟩, fun M hM => ?_⟩
      refine lc_data (K := K) (walk_tup (xs := vs)) (fun i => (ls[i]?).bind fun l => if (!decide (l.1 ∈ ls.map (·.2.1))) = true then some (PyData.str l.1) else none) hM (by omega) (fun H5 s5 => sqT_same s5 hva4) (fun i d e => ?_) (fun i x H5 H6 CC hi s5 y c1 c2 => ?_) (fun H5 zs s5 hzs r5 => ?_)
      · obtain ⟨c, _, e⟩ := Option.bind_eq_some_iff.mp e
        split at e
        · cases e
          rfl
        · cases e
      · obtain ⟨rfl, hx⟩ := y
        obtain ⟨l, hl, hxl⟩ := lines_at (dpAll_same s5 hvs4) hx
        obtain ⟨b, wv, rfl, hb, _⟩ := dp_line hxl
        refine ⟨rfl, ?_⟩
        have ef : ((ls[i]?).bind fun l => if (!decide (l.1 ∈ ls.map (·.2.1))) = true then some (PyData.str l.1) else none) = if (!decide (l.1 ∈ ls.map (·.2.1))) = true then some (PyData.str l.1) else none := by
          rw [hl]
          rfl
        refine ⟨_, rfl, b, _, 0, V.str l.1, rfl, rfl, hb, rfl, _, rfl, L, _, rfl, .inl (.of (s5 _ _ hys')), rfl, strs_flat _, _, rfl, ?_⟩
        show if (!inV (V.str l.1) ((ls.map (·.2.1)).map V.str)) = true then _ else _
        rw [inStr]
        refine ite2 (fun ht => ?_) (fun ht => ?_)
        · refine ⟨_, rfl, b, _, 0, V.str l.1, rfl, rfl, hb, rfl, c1 _ _ (.str l.1) (Same.refl _) ?_ (.str _)⟩
          rw [ef, if_pos ht]
        · refine c2 _ (Same.refl _) ?_
          rw [ef, if_neg ht]
      · have e : (List.range vs.length).filterMap (fun i => (ls[i]?).bind fun l => if (!decide (l.1 ∈ ls.map (·.2.1))) = true then some (PyData.str l.1) else none) = (leavesT ls).map PyData.str := by
          rw [lvs]
          unfold leavesT
          rw [List.map_map]
          exact fm_filter (fun l : Line => !decide (l.1 ∈ ls.map (·.2.1))) (fun l => PyData.str l.1) ls
        rw [e] at r5
        have hzs' := hzs.trans (congrArg (fun z => some (HO.lst z)) (dpAll_strs r5))
        exact ⟨M, _, rfl, .inl ⟨.of hzs', fun q hq => k _ _ ((s4.trans s5).trans (Same.upd hq)) (dp_strs_of (.of upd_same))⟩⟩
/-! ### == -/
def spEq (K : PySem.W.Frag) (C : Addr) : Sp := fun vs H Q _ => ∃ (a : Addr) (ls : List Line) (y : V) (t : Value) (b : Bool), vs = [.ref a, y] ∧ AreasAt K C H a ls ∧ TyX K H y t ∧ PySem.W.kitOne K t (.ref C) = some b ∧
  (b = true → ∃ c ms, y = .ref c ∧ AreasAt K C H c ms ∧ Q (.bl (decide (pageT ls = pageT ms))) H) ∧ (b = false → Q (.bl false) H)
theorem scA12 : FnScope ["self", "other"] ["self", "other"] (defScope (sAr 12)) := ⟨rfl, rfl, rfl, by decide +kernel, rfl, by decide +kernel, by decide +kernel⟩
theorem ok_eq {g : Addr} {fd : FuncData} (G : Glb mg) (T : ArT K mg C) (D : MeE K C "__eq__" 12 ["self", "other"] g fd) (A : MeOk P w K mg base 1 C "__str__" 11 ["self"] (spStr K C)) : MeOk P w K mg base 4 C "__eq__" 12 ["self", "other"] (spEq K C) := by
  obtain ⟨g1, fd1, D1, G1⟩ := A
  refine ⟨g, fd, D, D.2.1.ok scA12 (fun vs H Q E h => ?_) (fun cdv A outer s H vs Q E hr h => ?_)⟩
  · obtain ⟨a, ls, y, t, b, rfl, _⟩ := h
    rfl
  · obtain ⟨a, ls, y, t, b, rfl, hA, hty, hk, k1, k0⟩ := h
    refine ⟨_, pss_one (ps_ret (pe_and (pe_callB call_isi rfl G.isi bIsi (pa_cons (pv 1) (pa_cons (pe_glob (v := .ref C) rfl T.mgC rfl) pa_nil)))
      (pe_one (pe_cmpR op_eq (pe_callTy (call_strO (C := C) (E := E0) D1.1.at_ D1.1.fn (fnR_of G1 D1.2.2) hr pass0) rfl G.str bStr (pa_cons (pv 0) pa_nil))
        (pe_callTy (call_strO (C := C) (E := E0) D1.1.at_ D1.1.fn (fnR_of G1 D1.2.2) hr pass0) rfl G.str bStr (pa_cons (pv 1) pa_nil)) (nomark _))))), ?_⟩
    refine ⟨_, rfl, _, _, _, _, b, rfl, .own C, hty, hk, _, rfl, ?_⟩
    cases b with
    | false => exact iteF (k0 rfl)
    | true =>
      obtain ⟨c, ms, rfl, hM, q⟩ := k1 rfl
      obtain ⟨dx, v, e1, _⟩ := id hA
      obtain ⟨dy, u, e2, _⟩ := id hM
      refine iteT ⟨_, rfl, a, dx, _, rfl, e1, a, ls, rfl, hA, _, rfl, _, rfl, c, dy, _, rfl, e2, c, ms, rfl, hM, _, rfl, rfl, ?_⟩
      rw [strEq]
      exact q
/-! ### check_area -/
def spChkA (K : PySem.W.Frag) (C : Addr) : Sp := fun vs H Q _ => ∃ (a : Addr) (ls : List Line) (x : Str), vs = [.ref a, .str x] ∧ AreasAt K C H a ls ∧ x ∈ ls.map (·.1) ∧ ∀ H', Same H H' → Q .non H'
theorem sc29 : FnScope ["areas", "name"] ["areas", "name"] (defScope (topS 29)) := ⟨rfl, rfl, rfl, by decide +kernel, rfl, by decide +kernel, by decide +kernel⟩
theorem ok_chkA (G : Glb mg) (T : ArT K mg C) (D : DnE K mg "check_area" 29 ["areas", "name"]) (A : PrOk P w K mg base 1 C "names" 3 (spNames K C)) : OkF P w K mg base 3 "check_area" 29 ["areas", "name"] (spChkA K C) := by
  obtain ⟨f, fd, D⟩ := D
  obtain ⟨p1, g1, fd1, D1, G1⟩ := A
  refine ⟨f, fd, D, D.F.ok sc29 (fun vs H Q E h => ?_) (fun cdv A outer s H vs Q E hr h => ?_)⟩
  · obtain ⟨a, ls, x, rfl, _⟩ := h
    rfl
  · obtain ⟨a, ls, x, rfl, hA, hx, k⟩ := h
    obtain ⟨dx, v, e1, _⟩ := id hA
    refine ⟨_, pss_one (ps_if (PW.pt (pw_or (pt_not (pt_val (pe_callB call_isi rfl G.isi bIsi (pa_cons (pv 1) (pa_cons (pe_bltn (v := .ty "str") rfl G.str bStr rfl) pa_nil)))))
      (pw_or1 (pt_cmpR op_notIn_seq (pv 1) (pe_prop (pv 0) T.cl D1.1 G1 hr D1.2.2 .nil pass0 rfl) (by with_unfolding_all rfl))))) pss_never pss_nil), ?_⟩
    refine ⟨_, rfl, _, _, _, _, true, rfl, .ty "str", .base (.str _), kit_ty (by decide +kernel), _, rfl, iteF ?_⟩
    refine ⟨_, rfl, _, rfl, a, dx, _, rfl, e1, a, ls, rfl, hA, fun b o H2 s2 hb ho => ⟨b, _, rfl, .inr (.inl (.inr ⟨o, hb⟩)), rfl, strs_flat _, _, rfl, ?_⟩⟩
    show if (!inV (V.str x) ((ls.map (·.1)).map V.str)) = true then _ else _
    rw [inStr, decide_eq_true hx]
    exact iteF (k H2 s2)
/-! ### stretch -/
theorem name_at {ls : List Line} (hg : Good ls) {k : Nat} {l : Line} (hk : ls[k]? = some l) : (ls.map (·.1))[k]? = some l.1 ∧ ∀ m, m < k → (ls.map (·.1))[m]? ≠ some l.1 := by
  have e : (ls.map (·.1))[k]? = some l.1 := by
    rw [List.getElem?_map, hk]
    rfl
  refine ⟨e, fun m hm e2 => ?_⟩
  have nd := good_nodup hg
  have := (List.getElem?_inj (List.getElem?_eq_some_iff.mp e2).1 nd).mp (e2.trans e.symm)
  omega
def spStretch (K : PySem.W.Frag) (C : Addr) : Sp := fun vs H Q _ => ∃ (a : Addr) (ls : List Line) (j : Nat) (l : Line), vs = [.ref a, .str l.1] ∧ AreasAt K C H a ls ∧ ls[j]? = some l ∧ ∀ v H', Same H H' → Dp K H' v (spanD l.2.2) → Q v H'
theorem scA6 : FnScope ["self", "name"] ["self", "name"] (defScope (sAr 6)) := ⟨rfl, rfl, rfl, by decide +kernel, rfl, by decide +kernel, by decide +kernel⟩
theorem ok_stretch {g : Addr} {fd : FuncData} (G : Glb mg) (T : ArT K mg C) (D : MeE K C "stretch" 6 ["self", "name"] g fd) (A : PrOk P w K mg base 1 C "names" 3 (spNames K C)) (A2 : OkF P w K mg base 3 "check_area" 29 ["areas", "name"] (spChkA K C)) :
    MeOk P w K mg base 4 C "stretch" 6 ["self", "name"] (spStretch K C) := by
  obtain ⟨p1, g1, fd1, D1, G1⟩ := A
  obtain ⟨f2, fd2, D2, G2⟩ := A2
  refine ⟨g, fd, D, D.2.1.ok scA6 (fun vs H Q E h => ?_) (fun cdv A outer s H vs Q E hr h => ?_)⟩
  · obtain ⟨a, ls, j, l, rfl, _⟩ := h
    rfl
  · obtain ⟨a, ls, j, l, rfl, hA, hj, k⟩ := h
    refine ⟨_, pss_cons (ps_expr (pe_call G2 hr rfl D2.m D2.F.kp D2.b .nil pass0 (pa_cons (pv 0) (pa_cons (pv 1) pa_nil))))
      (pss_one (ps_ret (pe_ix ix_tup (pe_ix ix_tup (pe_fld (pv 0) rfl) (pe_tidx (pe_prop (pv 0) T.cl D1.1 G1 (hr.mono (by decide)) D1.2.2 .nil pass0 rfl) (pv 1)) (fun _ _ => rfl)) pe_int (fun _ _ => rfl)))), ?_⟩
    refine ⟨_, rfl, _, rfl, a, ls, l.1, rfl, hA, List.mem_map.mpr ⟨l, List.mem_of_getElem? hj, rfl⟩, fun H2 s2 => ?_⟩
    obtain ⟨dx, v, e1, e2, e3⟩ := hA.same s2
    obtain ⟨va, vs, rfl, hva, hvs⟩ := dp_lines e2
    refine ⟨_, rfl, a, C, dx, _, _, rfl, e1, T.cl, T.nL, flds_lines _ _, ?_⟩
    refine ⟨_, rfl, a, dx, _, rfl, e1, a, ls, rfl, hA.same s2, fun b o H3 s3 hb ho => ⟨b, o, _, rfl, hb, ho, _, rfl, l.1, j, rfl, hb, (name_at e3 hj).1, (name_at e3 hj).2, ?_⟩⟩
    have hvs3 := dpAll_same s3 hvs
    obtain ⟨x, hx, hxl⟩ := dpAll_get hvs3 (show (ls.map lineD)[j]? = some (lineD l) by rw [List.getElem?_map, hj]; rfl)
    obtain ⟨c, wv, rfl, hc, hw⟩ := dp_line hxl
    exact ⟨va, vs, _, _, rfl, rfl, sqT_same s3 hva, atI_nat hx, c, _, 2, wv, rfl, rfl, hc, rfl, k _ _ (s2.trans s3) hw⟩
/-! ### inner -/
def spInner (K : PySem.W.Frag) (C : Addr) : Sp := fun vs H Q _ => ∃ (a : Addr) (ls : List Line) (x : Str), vs = [.ref a, .str x] ∧ AreasAt K C H a ls ∧ x ∈ ls.map (·.1) ∧ ∀ v H', Same H H' → Dp K H' v (strsD (innerT ls x)) → Q v H'
theorem scA7 : FnScope ["self", "name", "line"] ["self", "name"] (defScope (sAr 7)) := ⟨rfl, rfl, rfl, by decide +kernel, rfl, by decide +kernel, by decide +kernel⟩
theorem ok_inner {g : Addr} {fd : FuncData} (G : Glb mg) (T : ArT K mg C) (D : MeE K C "inner" 7 ["self", "name"] g fd) (A2 : OkF P w K mg base 3 "check_area" 29 ["areas", "name"] (spChkA K C)) :
    MeOk P w K mg base 4 C "inner" 7 ["self", "name"] (spInner K C) := by
  obtain ⟨f2, fd2, D2, G2⟩ := A2
  refine ⟨g, fd, D, D.2.1.ok scA7 (fun vs H Q E h => ?_) (fun cdv A outer s H vs Q E hr h => ?_)⟩
  · obtain ⟨a, ls, x, rfl, _⟩ := h
    rfl
  · obtain ⟨a, ls, x, rfl, hA, hx, k⟩ := h
    refine ⟨_, pss_cons (ps_expr (pe_call G2 hr rfl D2.m D2.F.kp D2.b .nil pass0 (pa_cons (pv 0) (pa_cons (pv 1) pa_nil))))
      (pss_one (ps_ret (pe_callTy call_tuple_of rfl G.tup bTup (pa_cons (pe_lc (own := [("line", 2)]) (g := gName 2) (tt := tTest (tOp rEq (tOp (rIxT K) (tVar 2) (tC (.int 1))) (tVar 1))) rfl scA7.nd (pi_tup (pe_fld (pv 0) rfl)) (blkOk_by (N := ["self", "name", "line"]) (sc := defScope (sAr 7)) (by decide +kernel))
        (fun _ _ _ _ _ => pg_name (i := 2) scA7.nd rfl (Or.inl rfl)) (fun _ _ _ _ _ => pts_one (pt_cmpR op_eq (pe_ix (r := rIxT K) ix_tup (pv 2) pe_int (fun _ _ => rfl)) (pv 1) (nomark _))) (fun _ _ _ _ _ => pe_ix (r := rIxT K) ix_tup (pv 2) pe_int (fun _ _ => rfl))) pa_nil)))), ?_⟩
    refine ⟨_, rfl, _, rfl, a, ls, x, rfl, hA, hx, fun H2 s2 => ?_⟩
    obtain ⟨dx, v, e1, e2, e3⟩ := hA.same s2
    obtain ⟨va, vs, rfl, hva, hvs⟩ := dp_lines e2
    have hten := good_len e3
    have lvs : vs.length = ls.length := by rw [dpAll_len hvs, List.length_map]
    refine ⟨_, rfl, a, C, dx, _, _, rfl, e1, T.cl, T.nL, flds_lines _ _, va, rfl, ⟨_, hva⟩, fun M hM => ?_⟩
    refine lc_data (K := K) (walk_tup (xs := vs)) (fun i => (ls[i]?).bind fun l => if decide (l.2.1 = x) = true then some (PyData.str l.1) else none) hM (by omega) (fun H5 s5 => sqT_same s5 hva) (fun i d e => ?_) (fun i y H5 H6 CC hi s5 yy c1 c2 => ?_) (fun H5 zs s5 hzs r5 => ?_)
    · obtain ⟨c, _, e⟩ := Option.bind_eq_some_iff.mp e
      split at e
      · cases e
        rfl
      · cases e
    · obtain ⟨rfl, hy⟩ := yy
      obtain ⟨l, hl, hxl⟩ := lines_at (dpAll_same s5 hvs) hy
      obtain ⟨b, wv, rfl, hb, _⟩ := dp_line hxl
      refine ⟨rfl, ?_⟩
      have ef : ((ls[i]?).bind fun l => if decide (l.2.1 = x) = true then some (PyData.str l.1) else none) = if decide (l.2.1 = x) = true then some (PyData.str l.1) else none := by
        rw [hl]
        rfl
      refine ⟨_, rfl, b, _, 1, V.str l.2.1, rfl, rfl, hb, rfl, _, rfl, rfl, _, rfl, ?_⟩
      rw [strEq]
      refine ite2 (fun ht => ?_) (fun ht => ?_)
      · refine ⟨_, rfl, b, _, 0, V.str l.1, rfl, rfl, hb, rfl, c1 _ _ (.str l.1) (Same.refl _) ?_ (.str _)⟩
        rw [ef, if_pos ht]
      · refine c2 _ (Same.refl _) ?_
        rw [ef, if_neg ht]
    · have e : (List.range vs.length).filterMap (fun i => (ls[i]?).bind fun l => if decide (l.2.1 = x) = true then some (PyData.str l.1) else none) = (innerT ls x).map PyData.str := by
        rw [lvs]
        unfold innerT
        rw [List.map_map]
        exact fm_filter (fun l : Line => decide (l.2.1 = x)) (fun l => PyData.str l.1) ls
      rw [e] at r5
      have hzs' := hzs.trans (congrArg (fun z => some (HO.lst z)) (dpAll_strs r5))
      exact ⟨M, _, rfl, .inl ⟨.of hzs', fun q hq => k _ _ ((s2.trans s5).trans (Same.upd hq)) (dp_strs_of (.of upd_same))⟩⟩
end
end K3

/-! with_stretch, changed, areas_told, told. -/
namespace K3
open PySem PySem.Spec PyProof.Rows L2 TL
section
variable {P : Program} {w : World} {K : PySem.W.Frag} {mg : Str → Option Value} {base : Heap} {C CL : Addr}
/-! ### making one -/
theorem make_found {H1 : Hp} {Q : VK} {E : XK} {v : V} {os : List (Option Line)} (hv : Dp K H1 v (foundD os)) (hl : ∀ l, some l ∈ os → l.1.length ≤ 3000) (hn : os.length ≤ 3100)
    (k0 : okAll os = false → ∀ d H', Same H1 H' → E (.ref CL) (some d) H') (k1 : okAll os = true → ∀ b H', Same H1 H' → AreasAt K C H' b (allSome os) → Q (.ref b) H') :
    ∀ x dx, H1 x = none → H1 dx = none → dx ≠ x → spInit K C CL [.ref x, v] (upd (upd H1 dx (.own x)) x (.ins C dx [])) (fun v H2 => v = .non ∧ Q (.ref x) H2) E := by
  intro x dx nx ndx nex
  have s0 : Same H1 (upd (upd H1 dx (.own x)) x (.ins C dx [])) := fun b o e => by
    rw [upd_ne (ne_of_none e nx), upd_ne (ne_of_none e ndx)]
    exact e
  refine ⟨x, dx, v, os, rfl, upd_same, dp_same s0 hv, hl, hn, fun bad d H' s' => k0 bad d H' (s0.trans s'), fun ok H' but h => ⟨rfl, ?_⟩⟩
  have s1 : Same H1 H' := fun b o e => but b o (s0 b o e) (ne_of_none e nx)
  have eos := okFrom_some (show okFrom [] os = true by
    unfold okAll at ok
    exact (Bool.and_eq_true_iff.mp ok).2)
  refine k1 ok x H' s1 ⟨dx, v, h, ?_, ?_⟩
  · have hv' := dp_same s1 hv
    rw [eos, found_some] at hv'
    exact hv'
  · unfold Good
    rw [← eos]
    exact ok
theorem good_names {ls : List Line} (hg : Good ls) : ∀ l, some l ∈ ls.map some → l.1.length ≤ 3000 := fun l hl => by
  obtain ⟨m, hm, e⟩ := List.mem_map.mp hl
  cases e
  have := isTag_len (good_tag hg l hm)
  omega
theorem make_good {H1 : Hp} {Q : VK} {E : XK} {v : V} {ls : List Line} (hv : Dp K H1 v (linesD ls)) (hg : Good ls) (k : ∀ b H', Same H1 H' → AreasAt K C H' b ls → Q (.ref b) H') :
    ∀ x dx, H1 x = none → H1 dx = none → dx ≠ x → spInit K C CL [.ref x, v] (upd (upd H1 dx (.own x)) x (.ins C dx [])) (fun v H2 => v = .non ∧ Q (.ref x) H2) E := by
  have h10 := good_len hg
  refine make_found (os := ls.map some) (by rw [found_some]; exact hv) (good_names hg) (by rw [List.length_map]; omega) (fun bad => ?_) (fun _ b H' s h => k b H' s (by rw [allSome_some] at h; exact h))
  have z : okAll (ls.map some) = true := hg
  rw [z] at bad
  cases bad
/-- Areas as it is made -/
def InE (P : Program) (w : World) (K : PySem.W.Frag) (mg : Str → Option Value) (base : Heap) (C CL : Addr) : Prop := ∃ f fd, Mk K C f ∧ Binds K fd ["self", "lines"] [] ∧ KBn K fd ["self", "lines"] 1 ["lines"] (fun us ws => us ++ ws) (fun vs zs => vs ++ zs) ∧
  FnOk P w K mg base (L2.CX P w) 5 f fd ["self", "lines"] (spInit K C CL)
/-! ### with_stretch -/
theorem set_split {α : Type} {l : List α} {k : Nat} {x y : α} (h : l[k]? = some x) : l.set k y = l.take k ++ y :: l.drop (k + 1) := by
  have hk := (List.getElem?_eq_some_iff.mp h).1
  apply List.ext_getElem?
  intro i
  rw [List.getElem?_set]
  by_cases e : k = i
  · subst e
    rw [if_pos rfl, if_pos hk, List.getElem?_append_right (by rw [List.length_take]; exact Nat.min_le_left _ _), List.length_take, Nat.min_eq_left (Nat.le_of_lt hk), Nat.sub_self]
    rfl
  · rw [if_neg e]
    by_cases h2 : i < k
    · rw [List.getElem?_append_left (by rw [List.length_take]; omega), List.getElem?_take_of_lt h2]
    · rw [List.getElem?_append_right (by rw [List.length_take]; omega), List.length_take, Nat.min_eq_left (Nat.le_of_lt hk)]
      obtain ⟨j, hj⟩ : ∃ j, i - k = j + 1 := ⟨i - k - 1, by omega⟩
      rw [hj, List.getElem?_cons_succ, List.getElem?_drop]
      congr 1
      omega
theorem cut_lo {xs : List V} {k : Nat} (h : k ≤ xs.length) : cutV xs none (some (k : Int)) = xs.take k := by
  unfold cutV
  rw [HT.sIx_none, HT.sIx_nat]
  simp [Nat.min_eq_left h]
theorem cut_hi {xs : List V} {k : Nat} (h : k ≤ xs.length) : cutV xs (some (k : Int)) none = xs.drop k := by
  unfold cutV
  rw [HT.sIx_none, HT.sIx_nat, Nat.min_eq_left h]
  rw [List.take_of_length_le]
  rw [List.length_drop]
  exact Nat.le_refl _
def spWith (K : PySem.W.Frag) (C : Addr) : Sp := fun vs H Q _ => ∃ (a : Addr) (ls : List Line) (j : Nat) (l : Line) (v : V) (s : Span), vs = [.ref a, .int (j : Nat), v] ∧ AreasAt K C H a ls ∧ ls[j]? = some l ∧ Dp K H v (spanD s) ∧ spanOk s = true ∧
  ∀ b H', Same H H' → AreasAt K C H' b (ls.set j (l.1, l.2.1, s)) → Q (.ref b) H'
theorem sc30 : FnScope ["areas", "index", "stretch", "lines"] ["areas", "index", "stretch"] (defScope (topS 30)) := ⟨rfl, rfl, rfl, by decide +kernel, rfl, by decide +kernel, by decide +kernel⟩
theorem ok_with (G : Glb mg) (T : ArT K mg C) (D : DnE K mg "with_stretch" 30 ["areas", "index", "stretch"]) (A : PrOk P w K mg base 1 C "lines" 2 (spLines K C)) (M : InE P w K mg base C CL) : OkF P w K mg base 7 "with_stretch" 30 ["areas", "index", "stretch"] (spWith K C) := by
  obtain ⟨f, fd, D⟩ := D
  obtain ⟨p1, g1, fd1, D1, G1⟩ := A
  obtain ⟨fi, fdi, M, bI, _, GI⟩ := M
  refine ⟨f, fd, D, D.F.ok sc30 (fun vs H Q E h => ?_) (fun cdv A outer s H vs Q E hr h => ?_)⟩
  · obtain ⟨a, ls, j, l, v, s, rfl, _⟩ := h
    rfl
  · obtain ⟨a, ls, j, l, v, sp, rfl, hA, hj, hv, ho, k⟩ := h
    refine ⟨_, pss_cons (ps_set (i := 3) sc30.nd rfl (Or.inl rfl) (pe_prop (pv 0) T.cl D1.1 G1 (hr.mono (by decide)) D1.2.2 .nil pass0 rfl))
      (pss_one (ps_ret (pe_make M GI hr rfl T.mgC bI .nil passL (pa_cons (pe_tup (StX.pa_star (pe_slice sl_tup (pv 3) po_none (po_some (pv 1))) (pa_cons (pe_tup (StX.pa_star (pe_slice sl_tup (pe_ix ix_tup (pv 3) (pv 1) (fun _ _ => rfl)) po_none (po_some pe_int)) (pa_cons (pv 2) pa_nil)))
        (StX.pa_star (pe_slice sl_tup (pv 3) (po_some (pe_op op_add (pv 1) pe_int)) po_none) pa_nil)))) pa_nil)))), ?_⟩
    obtain ⟨dx, va0, e1, e2, e3⟩ := id hA
    refine ⟨_, rfl, a, dx, _, rfl, e1, a, ls, rfl, hA, fun va hva => ?_⟩
    obtain ⟨t, vs, rfl, ht, hvs⟩ := dp_lines hva
    have hten := good_len e3
    have lvs : vs.length = ls.length := by rw [dpAll_len hvs, List.length_map]
    have hjl := (List.getElem?_eq_some_iff.mp hj).1
    obtain ⟨x, hx, hxl⟩ := dpAll_get hvs (show (ls.map lineD)[j]? = some (lineD l) by rw [List.getElem?_map, hj]; rfl)
    obtain ⟨b, wv, rfl, hb, hw⟩ := dp_line hxl
    -- *lines[:index]
    refine ⟨_, rfl, _, rfl, _, rfl, t, vs, rfl, ht, ?_, fun p hp => ?_⟩
    · rintro ⟨_, q⟩
      rw [HT.sIx_nat] at q
      omega
    rw [cut_lo (by omega)]
    have s1 : Same H (upd H p (.tup (vs.take j))) := Same.upd hp
    have hp1 : SqT K (upd H p (.tup (vs.take j))) p (vs.take j) := .of upd_same
    generalize upd H p (.tup (vs.take j)) = H1 at *
    refine ⟨p, _, rfl, .inl hp1, ?_⟩
    -- (*lines[index][:2], stretch)
    refine ⟨_, rfl, _, rfl, t, vs, _, _, rfl, rfl, sqT_same s1 ht, atI_nat hx, _, rfl, b, _, rfl, sqT_same s1 hb, ?_, fun q hq => ?_⟩
    · rintro ⟨_, q⟩
      exact absurd (show HT.sIx 3 3 (some 2) = 3 from q) (by decide)
    have s2 : Same H1 (upd H1 q (.tup (cutV [.str l.1, .str l.2.1, wv] none (some 2)))) := Same.upd hq
    have ec : cutV [V.str l.1, .str l.2.1, wv] none (some 2) = [.str l.1, .str l.2.1] := rfl
    rw [ec] at s2 ⊢
    have hq2 : SqT K (upd H1 q (.tup [.str l.1, .str l.2.1])) q [.str l.1, .str l.2.1] := .of upd_same
    have s12 := s1.trans s2
    generalize upd H1 q (.tup [.str l.1, .str l.2.1]) = H2 at *
    refine ⟨q, _, rfl, .inl hq2, _, rfl, by show 3 ≤ sizeLine; exact big4000 (by decide), fun r hr' => ?_⟩
    have s3 : Same H2 (upd H2 r (.tup ([.str l.1, .str l.2.1] ++ [v]))) := Same.upd hr'
    have hr3 : SqT K (upd H2 r (.tup ([.str l.1, .str l.2.1] ++ [v]))) r [.str l.1, .str l.2.1, v] := .of upd_same
    have s13 := s12.trans s3
    have hl3 : Dp K (upd H2 r (.tup ([.str l.1, .str l.2.1] ++ [v]))) (.ref r) (lineD (l.1, l.2.1, sp)) := dp_line_of hr3 (dp_same s13 hv)
    generalize upd H2 r (.tup ([.str l.1, .str l.2.1] ++ [v])) = H3 at *
    -- *lines[index + 1:]
    refine ⟨_, rfl, _, rfl, _, _, rfl, rfl, _, rfl, t, vs, rfl, sqT_same s13 ht, ?_, fun u hu => ?_⟩
    · rintro ⟨q, _⟩
      have e1 : (j : Int) + 1 = ((j + 1 : Nat) : Int) := by omega
      rw [e1, HT.sIx_nat] at q
      omega
    have e1 : (j : Int) + 1 = ((j + 1 : Nat) : Int) := by omega
    rw [e1, cut_hi (by omega)]
    have s4 : Same H3 (upd H3 u (.tup (vs.drop (j + 1)))) := Same.upd hu
    have hu4 : SqT K (upd H3 u (.tup (vs.drop (j + 1)))) u (vs.drop (j + 1)) := .of upd_same
    have s14 := s13.trans s4
    have hl4 := dp_same s4 hl3
    generalize upd H3 u (.tup (vs.drop (j + 1))) = H4 at *
    refine ⟨u, _, rfl, .inl hu4, ?_, fun y hy => ?_⟩
    · refine big4000 ?_
      simp only [List.length_append, List.length_cons, List.length_take, List.length_drop, List.length_nil]
      omega
    have s5 : Same H4 (upd H4 y (.tup (vs.take j ++ V.ref r :: (vs.drop (j + 1) ++ [])))) := Same.upd hy
    have s15 := s14.trans s5
    have hsq : SqT K (upd H4 y (.tup (vs.take j ++ V.ref r :: (vs.drop (j + 1) ++ [])))) y (vs.take j ++ V.ref r :: (vs.drop (j + 1) ++ [])) := .of upd_same
    show ∀ x dx, (upd H4 y (.tup (vs.take j ++ V.ref r :: (vs.drop (j + 1) ++ [])))) x = none → _
    generalize upd H4 y (.tup (vs.take j ++ V.ref r :: (vs.drop (j + 1) ++ []))) = H5 at *
    rw [List.append_nil] at hsq
    have hY : Dp K H5 (.ref y) (linesD (ls.set j (l.1, l.2.1, sp))) := by
      have hv5 := dpAll_same s15 hvs
      have hl5 := dp_same s5 hl4
      rw [set_split hj]
      unfold linesD
      refine .tup hsq ?_
      rw [List.map_append, List.map_cons, List.map_take, List.map_drop]
      exact dpAll_app (dpAll_take j hv5) (.cons hl5 (dpAll_drop (j + 1) hv5))
    exact make_good hY (good_set e3 hj ho) fun b H' s' hb => k b H' (s15.trans s') hb
end
end K3

/-! changed, areas_told, told. -/
namespace K3
open PySem PySem.Spec PyProof.Rows L2 TL
theorem rowP_nm {x : Str} {l : Line} (h : rowP x = some l) : l.1.length ≤ x.length := by
  unfold rowP at h
  split at h
  · rename_i w0 w1 w2 w3 e
    split at h
    · obtain ⟨s, _, e2⟩ := Option.map_eq_some_iff.mp h
      subst e2
      exact split_len x (show (32 : Nat) < 256 by decide) w1 (by rw [e]; simp)
    · cases h
  · cases h
section
variable {P : Program} {w : World} {K : PySem.W.Frag} {mg : Str → Option Value} {base : Heap} {C CL CT : Addr}
/-! ### changed -/
def spChanged (K : PySem.W.Frag) (C : Addr) : Sp := fun vs H Q _ => ∃ (a : Addr) (ls : List Line) (j : Nat) (l : Line) (v : V) (s : Span), vs = [.ref a, .str l.1, v] ∧ AreasAt K C H a ls ∧ ls[j]? = some l ∧ Dp K H v (spanD s) ∧ spanOk s = true ∧
  ∀ b H', Same H H' → AreasAt K C H' b (ls.set j (l.1, l.2.1, s)) → Q (.ref b) H'
theorem scA8 : FnScope ["self", "name", "stretch"] ["self", "name", "stretch"] (defScope (sAr 8)) := ⟨rfl, rfl, rfl, by decide +kernel, rfl, by decide +kernel, by decide +kernel⟩
theorem ok_changed {g : Addr} {fd : FuncData} (T : ArT K mg C) (D : MeE K C "changed" 8 ["self", "name", "stretch"] g fd) (A : PrOk P w K mg base 1 C "names" 3 (spNames K C)) (A2 : OkF P w K mg base 3 "check_area" 29 ["areas", "name"] (spChkA K C))
    (A3 : OkF P w K mg base 4 "check_stretch" 20 ["value"] (spChkStr K)) (A4 : OkF P w K mg base 7 "with_stretch" 30 ["areas", "index", "stretch"] (spWith K C)) : MeOk P w K mg base 8 C "changed" 8 ["self", "name", "stretch"] (spChanged K C) := by
  obtain ⟨p1, g1, fd1, D1, G1⟩ := A
  obtain ⟨f2, fd2, D2, G2⟩ := A2
  obtain ⟨f3, fd3, D3, G3⟩ := A3
  obtain ⟨f4, fd4, D4, G4⟩ := A4
  refine ⟨g, fd, D, D.2.1.ok scA8 (fun vs H Q E h => ?_) (fun cdv A outer s H vs Q E hr h => ?_)⟩
  · obtain ⟨a, ls, j, l, v, s, rfl, _⟩ := h
    rfl
  · obtain ⟨a, ls, j, l, v, sp, rfl, hA, hj, hv, ho, k⟩ := h
    refine ⟨_, pss_cons (ps_expr (pe_call G2 (hr.mono (by decide)) rfl D2.m D2.F.kp D2.b .nil pass0 (pa_cons (pv 0) (pa_cons (pv 1) pa_nil))))
      (pss_cons (ps_expr (pe_call G3 (hr.mono (by decide)) rfl D3.m D3.F.kp D3.b .nil pass0 (pa_cons (pv 2) pa_nil)))
      (pss_one (ps_ret (pe_call G4 hr rfl D4.m D4.F.kp D4.b .nil pass0 (pa_cons (pv 0) (pa_cons (pe_tidx (pe_prop (pv 0) T.cl D1.1 G1 (hr.mono (by decide)) D1.2.2 .nil pass0 rfl) (pv 1)) (pa_cons (pv 2) pa_nil))))))), ?_⟩
    refine ⟨_, rfl, _, rfl, a, ls, l.1, rfl, hA, List.mem_map.mpr ⟨l, List.mem_of_getElem? hj, rfl⟩, fun H2 s2 => ?_⟩
    refine ⟨_, rfl, v, sp, rfl, dp_same s2 hv, ho, fun H3 s3 => ?_⟩
    have hA3 := hA.same (s2.trans s3)
    have hv3 := dp_same (s2.trans s3) hv
    obtain ⟨dx, v0, e1, e2, e3⟩ := id hA3
    refine ⟨_, rfl, _, rfl, a, dx, _, rfl, e1, a, ls, rfl, hA3, fun b o H4 s4 hb hob => ⟨b, o, _, rfl, hb, hob, _, rfl, l.1, j, rfl, hb, (name_at e3 hj).1, (name_at e3 hj).2, ?_⟩⟩
    exact ⟨_, rfl, a, ls, j, l, v, sp, rfl, hA3.same s4, hj, dp_same s4 hv3, ho, fun b' H' s' h' => k b' H' (((s2.trans s3).trans s4).trans s') h'⟩
/-! ### areas_told -/
def spATold (K : PySem.W.Frag) (C : Addr) : Sp := fun vs H Q _ => ∃ (t : Addr) (rows : List Str), vs = [.ref t, .str areaS] ∧ SqL K H t (rows.map V.str) ∧ (∀ r ∈ rows, TxtOk r) ∧ rows.length ≤ 3100 ∧
  (okAll (rows.map rowP) = true → ∀ b H', Same H H' → AreasAt K C H' b (allSome (rows.map rowP)) → Q (.ref b) H') ∧ (okAll (rows.map rowP) = false → ∀ H', Same H H' → Q .non H')
theorem sc28 : FnScope ["texts", "word", "found", "text"] ["texts", "word"] (defScope (topS 28)) := ⟨rfl, rfl, rfl, by decide +kernel, rfl, by decide +kernel, by decide +kernel⟩
theorem ok_aTold (G : Glb mg) (T : ArT K mg C) (D : DnE K mg "areas_told" 28 ["texts", "word"]) (A : OkF P w K mg base 5 "line_told" 26 ["text", "word"] (spLineTold K)) (M : InE P w K mg base C CL) (mR : mg "InvalidLines" = some (.ref CL)) (eR : PySem.W.exmOne K (.ref CL) (.ref CL) = some true) :
    OkF P w K mg base 7 "areas_told" 28 ["texts", "word"] (spATold K C) := by
  obtain ⟨f, fd, D⟩ := D
  obtain ⟨f1, fd1, D1, G1⟩ := A
  obtain ⟨fi, fdi, M, bI, _, GI⟩ := M
  refine ⟨f, fd, D, D.F.ok sc28 (fun vs H Q E h => ?_) (fun cdv A outer s H vs Q E hr h => ?_)⟩
  · obtain ⟨t, rows, rfl, _⟩ := h
    rfl
  · obtain ⟨t, rows, rfl, ht, hl, hn, k1, k0⟩ := h
    refine ⟨_, pss_cons (ps_set (i := 2) sc28.nd rfl (Or.inl rfl) (pe_callTy call_tuple_of rfl G.tup bTup (pa_cons (pe_lc (own := [("text", 3)]) (g := gName 3) (tt := tYes) rfl sc28.nd (pi_list (pv 0)) (blkOk_by (N := ["texts", "word", "found", "text"]) (sc := defScope (topS 28)) (by decide +kernel))
        (fun _ _ _ _ _ => pg_name (i := 3) sc28.nd rfl (Or.inl rfl)) (fun _ _ _ _ _ => pts_nil) (fun _ _ _ _ _ => pe_call G1 (hr.mono (by decide)) rfl D1.m D1.F.kp D1.b .nil pass0 (pa_cons (pv 3) (pa_cons (pv 1) pa_nil)))) pa_nil)))
      (pss_one (ps_try_only (c := .ref CL) (tb := fun W => tRet (tMake C (spInit K C CL) [] (fun cls d H => ∀ σ', W cls d σ' H) (tCons (tVar 2) tNil))) rfl rfl ⟨rfl, by decide, .inl mR⟩ takes0
        (fun W pn xe tk _ => pss_one (ps_ret (pe_make M GI hr rfl T.mgC bI .nil (passes_call tk fun cls d σ H h => h σ) (pa_cons (pv 2) pa_nil)))) (fun a oe cls d pn _ _ => pss_one (ps_ret pe_non)))), ?_⟩
    refine ⟨_, rfl, t, rfl, ⟨_, ht⟩, fun L hL => ?_⟩
    refine lc_data (K := K) (walk_list (xs := rows.map V.str)) (fun i => ((rows.map rowP)[i]?).map optD) hL (by rw [List.length_map]; omega) (fun H2 s2 => s2.seq ht) (fun i d e => ?_) (fun i v H2 H3 CC hi s2 y c1 c2 => ?_) (fun H2 ys s2 hys r => ?_)
    · obtain ⟨c, _, rfl⟩ := Option.map_eq_some_iff.mp e
      exact flat_opt c
    · obtain ⟨rfl, hc⟩ := y
      rw [List.getElem?_map] at hc
      obtain ⟨q, hq, rfl⟩ := Option.map_eq_some_iff.mp hc
      refine ⟨rfl, tyes ?_⟩
      refine ⟨_, rfl, _, rfl, q, rfl, hl q (List.mem_of_getElem? hq), fun v H4 s4 d4 => c1 _ _ _ s4 ?_ d4⟩
      rw [List.getElem?_map, hq]
      rfl
    · have e : (List.range (rows.map V.str).length).filterMap (fun i => ((rows.map rowP)[i]?).map optD) = (rows.map rowP).map optD := by
        rw [List.length_map, ← List.length_map (f := rowP)]
        exact fm_some optD _
      rw [e] at r
      refine ⟨L, ys, rfl, .inl ⟨.of hys, fun p hp => ?_⟩⟩
      have s3 : Same H2 (upd H2 p (.tup ys)) := Same.upd hp
      have hv : Dp K (upd H2 p (.tup ys)) (.ref p) (foundD (rows.map rowP)) := .tup (.of upd_same) (dpAll_same s3 r)
      refine ⟨_, rfl, make_found hv (fun l hl' => ?_) (by rw [List.length_map]; exact hn) (fun bad d H' s' σ' => ?_) (fun ok b H' s' h' => k1 ok b H' ((s2.trans s3).trans s') h')⟩
      · obtain ⟨q, hq, e⟩ := List.mem_map.mp hl'
        exact Nat.le_trans (rowP_nm e) (hl q hq).1
      · exact ⟨true, eR, fun _ a ha => k0 bad H' ((s2.trans s3).trans s'), fun z => Bool.noConfusion z⟩
/-! ### told -/
def spTold (K : PySem.W.Frag) (C CT : Addr) : Sp := fun vs H Q E => ∃ (x : V) (o : Option (List Line)), vs = [.ref C, x] ∧
  ((∃ t, x = .str t ∧ TxtOk t ∧ o = toldT t) ∨ (∃ ty, TyX K H x ty ∧ PySem.W.kitOne K ty (.type "str") = some false ∧ o = none)) ∧
  (∀ ls, o = some ls → ∀ b H', Same H H' → AreasAt K C H' b ls → Q (.ref b) H') ∧ (o = none → ∀ d H', Same H H' → H' d = some (.xd [(("given" : Str), x)]) → E (.ref CT) (some d) H')
theorem scA1 : FnScope ["cls", "text", "found"] ["cls", "text"] (defScope (sAr 1)) := ⟨rfl, rfl, rfl, by decide +kernel, rfl, by decide +kernel, by decide +kernel⟩
theorem ok_told {f fT : Addr} {fd : FuncData} (G : Glb mg) (D : Fun K "told" "Areas.told" (sAr 1) f fd) (hsup : mg "super" = none) (R : ErrC K P (inClass (topS 4) 0) "InvalidText.__init__" CT fT "given") (mR : mg "InvalidText" = some (.ref CT))
    (A : OkF P w K mg base 7 "areas_told" 28 ["texts", "word"] (spATold K C)) : FnOk P w K mg base (L2.CX P w) 8 f fd ["cls", "text"] (spTold K C CT) := by
  obtain ⟨f1, fd1, D1, G1⟩ := A
  refine D.okX scA1 (fun vs H Q E h => ?_) (fun cdv A outer s H vs Q E hr h => ?_)
  · obtain ⟨x, o, rfl, _⟩ := h
    rfl
  · obtain ⟨x, o, rfl, hx, k1, k0⟩ := h
    refine ⟨_, pss_cons (ps_set (i := 2) scA1.nd rfl (Or.inl rfl) (pe_ifExp (pt_val (pe_callB call_isi rfl G.isi bIsi (pa_cons (pv 1) (pa_cons (pe_bltn (v := .ty "str") rfl G.str bStr rfl) pa_nil))))
        (pe_call G1 hr rfl D1.m D1.F.kp D1.b .nil pass0 (pa_cons (pe_split (pv 1) pe_str) (pa_cons pe_str pa_nil))) pe_non))
      (pss_cons (ps_if (pt_cmp (pc_isN (pv 2))) (pss_one (ps_raiseE rfl shT R hsup hr mR (takes_of rfl rfl rfl rfl) (pa_cons (pv 1) pa_nil) rfl)) pss_nil)
      (pss_one (ps_ret (pv 2)))), ?_⟩
    have none_ : o = none → ∀ H', Same H H' → ∀ d, H' d = none → E (.ref CT) (some d) (upd H' d (.xd [(("given" : Str), x)])) := fun e H' s' d hd => k0 e d _ (s'.trans (Same.upd hd)) upd_same
    rcases hx with ⟨t, rfl, ht, rfl⟩ | ⟨ty, hty, hk, rfl⟩
    · refine ⟨_, rfl, _, _, _, _, true, rfl, .ty "str", .base (.str _), kit_ty (by decide +kernel), _, rfl, iteT ?_⟩
      refine ⟨_, rfl, ⟨_, rfl⟩, t, _, rfl, rfl, rfl, by have := ht.1; rw [sizeLine_eq]; omega, fun p hp => ?_⟩
      rw [str_nl]
      have s1 : Same H (upd H p (.lst ((Txt.split t nlS).map V.str))) := Same.upd hp
      have hrows : ∀ r ∈ Txt.split t nlS, TxtOk r := fun r hr => ht.part (show (10 : Nat) < 256 by decide) hr
      have hcount : (Txt.split t nlS).length ≤ 3100 := Nat.le_trans (split_count t (show (10 : Nat) < 256 by decide)) (by have := ht.1; omega)
      refine ⟨p, Txt.split t nlS, rfl, .of upd_same, hrows, hcount, fun ok b H' s' hb => ?_, fun bad H' s' => ?_⟩
      · refine ⟨_, rfl, _, rfl, iteF ⟨_, rfl, k1 _ ?_ b H' (s1.trans s') hb⟩⟩
        unfold toldT
        rw [if_pos ok]
      · refine ⟨_, rfl, _, rfl, iteT ⟨_, rfl, _, rfl, none_ ?_ H' (s1.trans s')⟩⟩
        unfold toldT
        rw [bad, if_neg Bool.false_ne_true]
    · refine ⟨_, rfl, _, _, _, _, false, rfl, .ty "str", hty, hk, _, rfl, iteF ?_⟩
      exact ⟨_, rfl, _, rfl, iteT ⟨_, rfl, _, rfl, none_ rfl H (Same.refl H)⟩⟩
end
end K3

/-! How long the shown forms of our data are. -/
namespace K3
open PySem PySem.Spec PyProof.Rows L2 TL
theorem tf_le : ∀ (ts : List Str) (k : Nat) (acc : Str), (textFrom k acc ts).length ≤ acc.length + piled ts
  | [], k, acc => Nat.le_add_right _ _
  | t :: r, k, acc => by
    have ih := tf_le r (k + 1) (acc ++ (if k > 0 then ", " else "" : String) ++ t)
    show (textFrom (k + 1) (acc ++ (if k > 0 then ", " else "" : String) ++ t) r).length ≤ _
    rw [piled_cons]
    rw [app_len, app_len] at ih
    have e : (((if k > 0 then ", " else "" : String)) : Str).length ≤ 2 := by
      split <;> decide
    omega
def Sh (n : Nat) (d : PyData) : Prop := d.shown.length ≤ n
theorem Sh.mono {n m : Nat} {d : PyData} (h : Sh n d) (k : n ≤ m) : Sh m d := Nat.le_trans h k
theorem piled_le {m : Nat} : ∀ {ds : List PyData}, (∀ d ∈ ds, Sh m d) → piled (PyData.shownAll ds) ≤ ds.length * (m + 2)
  | [], _ => by
    simp only [PyData.shownAll]
    exact Nat.le_of_eq (by simp [piled])
  | d :: ds, h => by
    simp only [PyData.shownAll]
    rw [piled_cons, List.length_cons, Nat.add_mul]
    have h1 : d.shown.length ≤ m := h d List.mem_cons_self
    have h2 := piled_le (ds := ds) fun e he => h e (List.mem_cons_of_mem _ he)
    omega
theorem sh_list {m : Nat} {ds : List PyData} (h : ∀ d ∈ ds, Sh m d) : Sh (ds.length * (m + 2) + 2) (.list ds) := by
  unfold Sh
  simp only [PyData.shown]
  unfold listText
  rw [app_len]
  have h1 := tf_le (PyData.shownAll ds) 0 "["
  have h2 := piled_le h
  have e1 : (("[" : String) : Str).length = 1 := rfl
  have e2 : (("]" : String) : Str).length = 1 := rfl
  omega
theorem sh_tuple {m : Nat} {ds : List PyData} (h : ∀ d ∈ ds, Sh m d) : Sh (ds.length * (m + 2) + 3) (.tuple ds) := by
  unfold Sh
  simp only [PyData.shown]
  unfold tupleText
  rw [app_len, app_len]
  have h2 := piled_le h
  have e1 : (("(" : String) : Str).length = 1 := rfl
  have e3 : (((if (PyData.shownAll ds).length == 1 then ",)" else ")" : String) : Str)).length ≤ 2 := by split <;> decide
  have e4 : (Str.join ", " (PyData.shownAll ds)).length ≤ piled (PyData.shownAll ds) := by
    by_cases q : PyData.shownAll ds = []
    · rw [q]
      exact Nat.zero_le _
    · have := join_length_add _ q
      omega
  omega
theorem sh_str {x : Str} {n : Nat} (h : ∀ c ∈ tl x, c < 128) (k : x.length ≤ n) : Sh (10 * n + 2) (.str x) := by
  unfold Sh
  simp only [PyData.shown]
  have := StrLaws.reprText_len x fun c hc => Nat.lt_trans (h c hc) (by decide)
  omega
theorem sh_int {i : Int} (h : 0 ≤ i) (k : i < 10000) : Sh 4 (.int i) := natT_len h k
theorem sh_span {s : Span} (h : spanOk s = true) : Sh 15 (spanD s) := by
  obtain ⟨h0, h1, h2⟩ := spanOk_iff.mp h
  exact sh_tuple (m := 4) (ds := [.int s.1, .int s.2]) fun d hd => by
    rcases List.mem_cons.mp hd with e | e
    · rw [e]
      exact sh_int h0 (by omega)
    · rw [List.mem_singleton.mp e]
      exact sh_int (by omega) (by omega)
theorem sh_line {l : Line} (h1 : isTag l.1 = true) (h2 : l.2.1 = Str.empty ∨ isTag l.2.1 = true) (h3 : spanOk l.2.2 = true) : Sh 255 (lineD l) := by
  have t1 := isTag_len h1
  have p1 : l.2.1.length ≤ 8 := by
    rcases h2 with e | e
    · rw [e]
      decide
    · exact (isTag_len e).2
  have p2 : ∀ c ∈ tl l.2.1, c < 128 := by
    rcases h2 with e | e
    · rw [e]
      decide
    · exact tag_ascii e
  refine (sh_tuple (m := 82) (ds := [.str l.1, .str l.2.1, spanD l.2.2]) fun d hd => ?_).mono (by show 3 * 84 + 3 ≤ 255; decide)
  simp only [List.mem_cons, List.not_mem_nil, or_false] at hd
  rcases hd with rfl | rfl | rfl
  · exact sh_str (tag_ascii h1) t1.2
  · exact sh_str p2 p1
  · exact (sh_span h3).mono (by decide)
theorem sh_lines {ls : List Line} (h : Good ls) : Sh 2573 (linesD ls) := by
  have h10 := good_len h
  refine (sh_tuple (m := 255) (ds := ls.map lineD) fun d hd => ?_).mono ?_
  · obtain ⟨l, hl, rfl⟩ := List.mem_map.mp hd
    exact sh_line (good_tag h l hl) (good_pa h l hl) (good_span h l hl)
  · rw [List.length_map]
    have : ls.length * (255 + 2) ≤ 10 * 257 := Nat.mul_le_mul_right _ h10.2
    omega
theorem sh_strs {ws : List Str} {n : Nat} (h : ∀ w ∈ ws, (∀ c ∈ tl w, c < 128) ∧ w.length ≤ 8) (k : ws.length ≤ n) : Sh (n * 84 + 3) (strsD ws) := by
  refine (sh_tuple (m := 82) (ds := ws.map PyData.str) fun d hd => ?_).mono ?_
  · obtain ⟨w, hw, rfl⟩ := List.mem_map.mp hd
    exact sh_str (h w hw).1 (h w hw).2
  · rw [List.length_map]
    have := Nat.mul_le_mul_right 84 k
    omega
theorem tags_small {ls : List Line} (h : Good ls) {ws : List Str} (hw : ∀ w ∈ ws, w ∈ ls.map (·.1)) : ∀ w ∈ ws, (∀ c ∈ tl w, c < 128) ∧ w.length ≤ 8 := fun w hx => by
  obtain ⟨l, hl, rfl⟩ := List.mem_map.mp (hw w hx)
  exact ⟨tag_ascii (good_tag h l hl), (isTag_len (good_tag h l hl)).2⟩
mutual
/-- ints are small, no dict -/
def smallD : PyData → Bool
  | .none => true
  | .bool _ => true
  | .int i => decide (i.natAbs ≤ 1000000)
  | .str _ => true
  | .list xs => smallDs xs
  | .tuple xs => smallDs xs
  | .dict _ => false
def smallDs : List PyData → Bool
  | [] => true
  | d :: ds => smallD d && smallDs ds
end
mutual
theorem small_show : ∀ d : PyData, smallD d = true → d.showable = true ∧ d.hasDict = false
  | .none, _ => by simp [PyData.showable, PyData.hasDict]
  | .bool _, _ => by simp [PyData.showable, PyData.hasDict]
  | .int i, h => by
    simp only [smallD, decide_eq_true_eq] at h
    refine ⟨?_, by simp [PyData.hasDict]⟩
    simp only [PyData.showable, decide_eq_true_eq]
    have e : i.natAbs.log2 ≤ 20 := by
      by_cases hz : i.natAbs = 0
      · rw [hz]; decide
      · have h2 : i.natAbs < 2 ^ 21 := by omega
        have := (Nat.log2_lt hz).mpr h2
        omega
    omega
  | .str _, _ => by simp [PyData.showable, PyData.hasDict]
  | .list xs, h => by
    have := small_shows xs (by simpa [smallD] using h)
    simp only [PyData.showable, PyData.hasDict]
    exact this
  | .tuple xs, h => by
    have := small_shows xs (by simpa [smallD] using h)
    simp only [PyData.showable, PyData.hasDict]
    exact this
  | .dict _, h => by simp [smallD] at h
theorem small_shows : ∀ ds : List PyData, smallDs ds = true → PyData.showableAll ds = true ∧ PyData.hasDictAll ds = false
  | [], _ => by simp [PyData.showableAll, PyData.hasDictAll]
  | d :: ds, h => by
    simp only [smallDs, Bool.and_eq_true] at h
    have h1 := small_show d h.1
    have h2 := small_shows ds h.2
    simp only [PyData.showableAll, PyData.hasDictAll, h1.1, h1.2, h2.1, h2.2, Bool.and_self, Bool.or_self, and_self]
end
theorem small_span {s : Span} (h : spanOk s = true) : smallD (spanD s) = true := by
  obtain ⟨h0, h1, h2⟩ := spanOk_iff.mp h
  have a1 : s.1.natAbs ≤ 1000000 := by omega
  have a2 : s.2.natAbs ≤ 1000000 := by omega
  simp [spanD, smallD, smallDs, a1, a2]
theorem smallDs_all : ∀ {ds : List PyData}, (∀ d ∈ ds, smallD d = true) → smallDs ds = true
  | [], _ => by simp [smallDs]
  | d :: ds, h => by
    simp only [smallDs, h d List.mem_cons_self, smallDs_all fun e he => h e (List.mem_cons_of_mem _ he), Bool.and_self]
theorem small_lines {ls : List Line} (h : Good ls) : smallD (linesD ls) = true := by
  unfold linesD
  simp only [smallD]
  exact smallDs_all fun d hd => by
    obtain ⟨l, hl, rfl⟩ := List.mem_map.mp hd
    have := small_span (good_span h l hl)
    simp [lineD, smallD, smallDs, this]
theorem small_strs (ws : List Str) : smallD (strsD ws) = true := by
  unfold strsD
  simp only [smallD]
  exact smallDs_all fun d hd => by
    obtain ⟨l, hl, rfl⟩ := List.mem_map.mp hd
    simp [smallD]
theorem depth_strsD (ws : List Str) : (strsD ws).depth ≤ 1 := by
  unfold strsD
  simp only [PyData.depth]
  have := depth_strs ws
  omega
end K3

/-! The law's own defs, 1: word, page, number, is_tag. -/
namespace K3
open PySem PySem.Spec PyProof.Rows L2 TL
theorem eqNil {ds : List PyData} (h : noBs ds = true) : PyData.eqv (.list ds) (.list []) = decide (ds = []) :=
  eqB_eq (by unfold noB; exact h) rfl ⟨fun e => PyData.list.inj e, fun e => by rw [e]⟩
theorem sgnEq {c d : Nat} : decide (V.str ⟨#[c]⟩ = V.str (sgn d)) = decide (c = d) := by
  rw [strEq, Bool.eq_iff_iff]
  simp only [decide_eq_true_eq]
  exact ⟨fun q => by have := congrArg tl q; exact (List.cons.inj this).1, fun q => by rw [q]; rfl⟩
/-- a number's text by the law: -1 for what is none -/
def numL1 (x : Str) : Int := if isNum x = true then numV x else -1
section
variable {P : Program} {w : World} {K : PySem.W.Frag} {mg : Str → Option Value} {base : Heap}
/-! ### _law_word -/
theorem sc37 : FnScope ["_law_span"] ["_law_span"] (defScope (topS 37)) := ⟨rfl, rfl, rfl, by decide +kernel, rfl, by decide +kernel, by decide +kernel⟩
theorem ok_word (G : Glb mg) (D : DnE K mg "_law_word" 37 ["_law_span"]) : OkF P w K mg base 1 "_law_word" 37 ["_law_span"] (spWrS K) := by
  obtain ⟨f, fd, D⟩ := D
  refine ⟨f, fd, D, D.F.ok sc37 (fun vs H Q E h => ?_) (fun cdv A outer s H vs Q E hr h => ?_)⟩
  · obtain ⟨v, s, rfl, _⟩ := h
    rfl
  · obtain ⟨v, sp, rfl, hv, ho, k⟩ := h
    obtain ⟨a, rfl, ha⟩ := dp_span hv
    obtain ⟨z1, z2, z3⟩ := spanOk_iff.mp ho
    refine ⟨_, pss_one (ps_ret (pe_ifExp (pt_cmpR op_eq (pe_ix ix_tup (pv 0) pe_int (fun _ _ => rfl)) (pe_ix ix_tup (pv 0) pe_int (fun _ _ => rfl)) (nomark _))
      (pe_callTy call_str_int rfl G.str bStr (pa_cons (pe_ix ix_tup (pv 0) pe_int (fun _ _ => rfl)) pa_nil))
      (pe_op op_add_str (pe_op op_add_str (pe_callTy call_str_int rfl G.str bStr (pa_cons (pe_ix ix_tup (pv 0) pe_int (fun _ _ => rfl)) pa_nil)) pe_str) (pe_callTy call_str_int rfl G.str bStr (pa_cons (pe_ix ix_tup (pv 0) pe_int (fun _ _ => rfl)) pa_nil))))), ?_⟩
    refine ⟨_, rfl, a, _, 0, V.int sp.1, rfl, rfl, ha, rfl, _, rfl, a, _, 1, V.int sp.2, rfl, rfl, ha, rfl, rfl, _, rfl, ?_⟩
    rw [intEq]
    unfold spanT at k
    have l1 : sp.1.natAbs.log2 < 1920 := log_small z1 (by omega)
    have l2 : sp.2.natAbs.log2 < 1920 := log_small (by omega) (by omega)
    refine ite2 (fun h1 => ?_) (fun h1 => ?_)
    · rw [if_pos (of_decide_eq_true h1)] at k
      exact ⟨_, rfl, a, _, 0, V.int sp.1, rfl, rfl, ha, rfl, sp.1, rfl, l1, k⟩
    · rw [if_neg fun q => h1 (decide_eq_true q)] at k
      have n1 := natT_len z1 (show sp.1 < 10000 by omega)
      have n2 := natT_len (show 0 ≤ sp.2 by omega) (show sp.2 < 10000 by omega)
      refine ⟨_, rfl, a, _, 0, V.int sp.1, rfl, rfl, ha, rfl, sp.1, rfl, l1, _, _, rfl, rfl, ?_, _, rfl, a, _, 1, V.int sp.2, rfl, rfl, ha, rfl, sp.2, rfl, l2, _, _, rfl, rfl, ?_, ?_⟩
      · refine big4000 ?_
        show (natT sp.1).length + 1 ≤ 4000
        omega
      · refine big4000 ?_
        show (natT sp.1 ++ Str.ofString "-").length + (natT sp.2).length ≤ 4000
        rw [app_len]
        have e1 : (Str.ofString "-").length = 1 := rfl
        omega
      · show Q (.str (natT sp.1 ++ Str.ofString "-" ++ natT sp.2)) H
        rw [str_dash]
        exact k
/-! ### _law_page -/
def spPage (K : PySem.W.Frag) : Sp := fun vs H Q _ => ∃ (v : V) (ls : List Line), vs = [v] ∧ Dp K H v (linesD ls) ∧ Good ls ∧ ∀ H', Same H H' → Q (.str (pageT ls)) H'
theorem sc38 : FnScope ["_law_lines", "_law_rows", "_law_tag", "_law_parent", "_law_span"] ["_law_lines"] (defScope (topS 38)) := ⟨rfl, rfl, rfl, by decide +kernel, rfl, by decide +kernel, by decide +kernel⟩
theorem ok_page (G : Glb mg) (D : DnE K mg "_law_page" 38 ["_law_lines"]) (A1 : OkF P w K mg base 1 "_law_word" 37 ["_law_span"] (spWrS K)) : OkF P w K mg base 2 "_law_page" 38 ["_law_lines"] (spPage K) := by
  obtain ⟨f, fd, D⟩ := D
  obtain ⟨f1, fd1, D1, G1⟩ := A1
  refine ⟨f, fd, D, D.F.ok sc38 (fun vs H Q E h => ?_) (fun cdv A outer s H vs Q E hr h => ?_)⟩
  · obtain ⟨v, ls, rfl, _⟩ := h
    rfl
  · obtain ⟨v, ls, rfl, hv, hg, k⟩ := h
    obtain ⟨t, vs, rfl, ht, hvs⟩ := dp_lines hv
    have hten := good_len hg
    have lvs : vs.length = ls.length := by rw [dpAll_len hvs, List.length_map]
    refine ⟨_, pss_cons (ps_set (i := 1) sc38.nd rfl (Or.inl rfl) (pe_lst pa_nil))
      (pss_cons (ps_for PassesOwn.never rfl (pi_tup (pv 0)) (pg_tup rfl (pgs_cons (pg_name (i := 2) sc38.nd rfl (Or.inl rfl)) (pgs_cons (pg_name (i := 3) sc38.nd rfl (Or.inl rfl)) (pgs_cons (pg_name (i := 4) sc38.nd rfl (Or.inl rfl)) pgs_nil))))
        (pss_one (ps_expr (pe_bm PySem.F.plainAttrs_list PySem.F.slot_list_append PySem.F.type_list_append mt_append (pv 1) (pa_cons (pe_join pe_str (pe_lst (pa_cons pe_str (pa_cons (pv 2)
          (pa_cons (pe_ifExp (pt_cmpR op_ne (pv 3) pe_str (nomark _)) (pv 3) pe_str) (pa_cons (pe_call G1 hr rfl D1.m D1.F.kp D1.b .nil pass0 (pa_cons (pv 4) pa_nil)) pa_nil)))))) pa_nil)))))
      (pss_one (ps_ret (pe_join pe_str (pv 1))))), ?_⟩
    refine ⟨by decide, fun n hn => ?_⟩
    have s1 : Same H (upd H n (.lst [])) := Same.upd hn
    refine ⟨_, rfl, t, rfl, ⟨_, sqT_same s1 ht⟩, ?_⟩
    refine for_it (walk_tup (K := K) (a := t) (xs := vs)) (fun i σ H2 => ∃ (x y z : Option V), σ = [some (.ref t), some (.ref n), x, y, z] ∧ Same H H2 ∧ H2 n = some (.lst (((ls.take i).map lineT).map V.str)))
      ⟨none, none, none, rfl, s1, upd_same⟩ (fun i σ H2 _ ⟨_, _, _, _, s, _⟩ => sqT_same s ht) ?_ ?_
    · rintro i x σ H2 H3 hi ⟨x0, y0, z0, rfl, s2, hn2⟩ ⟨rfl, hx⟩
      obtain ⟨l, hl, hxl⟩ := lines_at (dpAll_same s2 hvs) hx
      obtain ⟨b, wv, rfl, hb, hw⟩ := dp_line hxl
      have hm := List.mem_of_getElem? hl
      have htag := good_tag hg l hm
      have hpa := good_pa hg l hm
      have hsp := good_span hg l hm
      refine ⟨b, _, rfl, hb, rfl, _, _, rfl, _, _, rfl, _, _, rfl, rfl, ?_⟩
      refine ⟨_, rfl, .inl ⟨rfl, _, .of hn2⟩, ⟨_, rfl⟩, _, rfl, _, rfl, rfl, _, rfl, ?_⟩
      rw [strEq, str_empty]
      have lt1 := isTag_len htag
      have lp := paT_len hpa
      have ls9 := spanT_len hsp
      by_cases hp : l.2.1 = Str.empty
      · have ep : Str.ofString "-" = paT l.2.1 := by
          unfold paT
          rw [if_pos hp, str_dash]
        have lq : (Str.ofString "-").length = 1 := rfl
        rw [decide_eq_true hp]
        refine iteF ?_
        refine ⟨_, rfl, wv, l.2.2, rfl, hw, hsp, by show 4 ≤ sizeLine; exact big4000 (by decide), fun q hq => ?_⟩
        have sq : Same H3 (upd H3 q (.lst [.str areaS, .str l.1, .str (Str.ofString "-"), .str (spanT l.2.2)])) := Same.upd hq
        refine ⟨_, q, [areaS, l.1, (Str.ofString "-"), spanT l.2.2], rfl, rfl, .inl (.of upd_same), ?_, n, _, _, rfl, rfl, sq _ _ hn2, ?_, _, _, _, rfl, ?_, ?_⟩
        · have e1 : (Str.ofString " ").length = 1 := rfl
          have e2 : areaS.length = 4 := by decide +kernel
          simp only [List.map_cons, List.map_nil, List.sum_cons, List.sum_nil, List.length_cons, List.length_nil, e1, e2]
          omega
        · rw [List.length_map, List.length_map, List.length_take]
          have : 4000 < sizeLine := by rw [sizeLine_eq]; omega
          omega
        · refine fun c o hc => ?_
          rw [upd_ne (ne_of_none hc hn)]
          exact sq _ _ (s2 _ _ hc)
        · rw [upd_same, str_spc, ep, ← lineT_join]
          have et : ls.take (i + 1) = ls.take i ++ [l] := by
            rw [List.take_succ, hl]
            rfl
          rw [et, List.map_append, List.map_append]
          rfl
      · have ep : l.2.1 = paT l.2.1 := by
          unfold paT
          rw [if_neg hp]
        have lq : l.2.1.length ≤ 8 := by
          rw [ep]
          exact lp.1
        rw [decide_eq_false hp]
        refine iteT ⟨_, rfl, ?_⟩
        refine ⟨_, rfl, wv, l.2.2, rfl, hw, hsp, by show 4 ≤ sizeLine; exact big4000 (by decide), fun q hq => ?_⟩
        have sq : Same H3 (upd H3 q (.lst [.str areaS, .str l.1, .str l.2.1, .str (spanT l.2.2)])) := Same.upd hq
        refine ⟨_, q, [areaS, l.1, l.2.1, spanT l.2.2], rfl, rfl, .inl (.of upd_same), ?_, n, _, _, rfl, rfl, sq _ _ hn2, ?_, _, _, _, rfl, ?_, ?_⟩
        · have e1 : (Str.ofString " ").length = 1 := rfl
          have e2 : areaS.length = 4 := by decide +kernel
          simp only [List.map_cons, List.map_nil, List.sum_cons, List.sum_nil, List.length_cons, List.length_nil, e1, e2]
          omega
        · rw [List.length_map, List.length_map, List.length_take]
          have : 4000 < sizeLine := by rw [sizeLine_eq]; omega
          omega
        · refine fun c o hc => ?_
          rw [upd_ne (ne_of_none hc hn)]
          exact sq _ _ (s2 _ _ hc)
        · rw [upd_same, str_spc, ep, ← lineT_join]
          have et : ls.take (i + 1) = ls.take i ++ [l] := by
            rw [List.take_succ, hl]
            rfl
          rw [et, List.map_append, List.map_append]
          rfl
    · rintro σ H2 ⟨x0, y0, z0, rfl, s2, hn2⟩
      rw [lvs, List.take_length] at hn2
      refine ⟨⟨_, rfl⟩, _, rfl, _, n, ls.map lineT, rfl, rfl, .inl (.of hn2), ?_, ?_⟩
      · have h1 : ((ls.map lineT).map (·.length)).sum ≤ ((ls.map lineT).map (·.length)).length * 32 := sum_le 32 fun z hz => by
          obtain ⟨u, hu, rfl⟩ := List.mem_map.mp hz
          obtain ⟨l, hl, rfl⟩ := List.mem_map.mp hu
          exact lineT_len (good_tag hg l hl) (good_pa hg l hl) (good_span hg l hl)
        have e1 : (Str.ofString "\n").length = 1 := rfl
        rw [List.length_map, List.length_map] at h1
        rw [List.length_map, e1]
        omega
      · rw [str_nl]
        exact k H2 s2
end
end K3

/-! The law's own defs, 2: number, span_told, is_tag. -/
namespace K3
open PySem PySem.Spec PyProof.Rows L2 TL
/-- the signs of a text that are not of a kind -/
def badS (p : Nat → Bool) (x : Str) : List Str := ((tl x).filter fun c => !p c).map sgn
theorem badS_nil {p : Nat → Bool} {x : Str} : badS p x = [] ↔ (tl x).all p = true := by
  unfold badS
  rw [List.map_eq_nil_iff, List.filter_eq_nil_iff, List.all_eq_true]
  constructor
  · intro h c hc
    have := h c hc
    simpa using this
  · intro h c hc
    simp [h c hc]
section
variable {P : Program} {w : World} {K : PySem.W.Frag} {mg : Str → Option Value} {base : Heap}
/-- [sign for sign in x if sign not in S]: what comes of it -/
theorem lc_bad (K0 : PySem.W.Frag) {p : Nat → Bool} {x S : Str} {i : Nat} {vs : List Nat} {σ : L2.St} {H1 : Hp} {D : Addr} {Qd : Hp → Prop} (hD : H1 D = none) (hx : x.length ≤ 4000) (hS : ∀ c, decide (c ∈ S.cps.toList) = p c) {g : TG} {tt : TT} {te : TE}
    (hs : ∀ (c : Nat) (H : Hp) (C : Option V → Hp → Prop), (p c = false → C (some (.str ⟨#[c]⟩)) H) → (p c = true → C none H) → g (.str ⟨#[c]⟩) (wipe σ vs) H fun σ2 H2 => wipe σ2 vs = wipe σ vs ∧ tt σ2 H2 fun b H3 => if b = true then te σ2 H3 fun y H4 => C (some y) H4 else C none H3)
    (hd : ∀ H, Same H1 H → H D = some (.lst ((badS p x).map V.str)) → Qd H) :
    ∃ W : Nat → Nat → Hp → Prop, (∃ m, W 0 m (upd H1 D (.lst []))) ∧ ∀ i m H, W i m H →
      ((Its x).stop i H ∧ Qd H) ∨ ((Its x).go i H ∧ ∃ Nx : Hp → Prop, (∀ H', Nx H' → ∃ m', m' < m ∧ W (i + 1) m' H') ∧ ∀ y H', (Its x).yld i H y H' → g y (wipe σ vs) H' fun σ2 H2 => wipe σ2 vs = wipe σ vs ∧ tt σ2 H2 fun b H3 =>
        if b = true then te σ2 H3 fun y H4 => ∃ acc, H4 D = some (.lst acc) ∧ acc.length < sizeLine ∧ Nx (upd H4 D (.lst (acc ++ [y]))) else Nx H3) := by
  refine lc_data (K := K0) walk_str (fun i => ((tl x)[i]?).bind fun c => if (!p c) = true then some (PyData.str (sgn c)) else none) hD (by show x.length ≤ 4000; exact hx) (fun _ _ => trivial) (fun i d e => ?_) (fun i v H2 H3 C hi s2 y c1 c2 => ?_) (fun H2 ys s2 hys r => ?_)
  · obtain ⟨c, _, e⟩ := Option.bind_eq_some_iff.mp e
    split at e
    · cases e
      rfl
    · cases e
  · obtain ⟨rfl, c, hc, rfl⟩ := y
    have ef : (((tl x)[i]?).bind fun c => if (!p c) = true then some (PyData.str (sgn c)) else none) = if (!p c) = true then some (PyData.str (sgn c)) else none := by
      rw [tl_at hc]
      rfl
    refine hs c H3 C (fun e => c1 _ _ (.str (sgn c)) (Same.refl _) ?_ (.str _)) (fun e => c2 _ (Same.refl _) ?_)
    · rw [ef, e]
      rfl
    · rw [ef, e]
      rfl
  · have lg : (tl x).length = x.cps.size := (len_tl x).symm
    have e : (List.range x.cps.size).filterMap (fun i => ((tl x)[i]?).bind fun c => if (!p c) = true then some (PyData.str (sgn c)) else none) = (badS p x).map PyData.str := by
      rw [← lg]
      unfold badS
      rw [List.map_map]
      exact fm_filter (fun c => !p c) (fun c => PyData.str (sgn c)) (tl x)
    rw [e] at r
    exact hd H2 s2 (hys.trans (congrArg (fun z => some (HO.lst z)) (dpAll_strs r)))
/-! ### _law_number -/
def spNum : Sp := fun vs H Q _ => ∃ x : Str, vs = [.str x] ∧ TxtOk x ∧ ∀ H', Same H H' → Q (.int (numL1 x)) H'
theorem sc39 : FnScope ["_law_word_here", "_law_sign"] ["_law_word_here"] (defScope (topS 39)) := ⟨rfl, rfl, rfl, by decide +kernel, rfl, by decide +kernel, by decide +kernel⟩
theorem ok_num (G : Glb mg) (D : DnE K mg "_law_number" 39 ["_law_word_here"]) : OkF P w K mg base 1 "_law_number" 39 ["_law_word_here"] spNum := by
  obtain ⟨f, fd, D⟩ := D
  refine ⟨f, fd, D, D.F.ok sc39 (fun vs H Q E h => ?_) (fun cdv A outer s H vs Q E hr h => ?_)⟩
  · obtain ⟨x, rfl, _⟩ := h
    rfl
  · obtain ⟨x, rfl, ⟨hx, hxd⟩, k⟩ := h
    refine ⟨_, pss_cons (ps_if (PW.pt (pw_or (pt_cmpR op_eq (pv 0) pe_str (nomark _)) (pw_or (pt_cmpR (op_neP hr.units)
        (pe_lc (own := [("_law_sign", 1)]) (g := gName 1) (tt := tTest (tOp rNotInS (tVar 1) (tC (.str "0123456789")))) rfl sc39.nd (pi_str (pv 0)) (blkOk_by (N := ["_law_word_here", "_law_sign"]) (sc := defScope (topS 39)) (by decide +kernel))
          (fun _ _ _ _ _ => pg_name (i := 1) sc39.nd rfl (Or.inl rfl)) (fun _ _ _ _ _ => pts_one (pt_cmpR op_notInS (pv 1) pe_str (by with_unfolding_all rfl))) (fun _ _ _ _ _ => pv 1)) (pe_lst pa_nil) (nomark _))
        (pw_or1 (PW.pt (pw_and (pt_cmpR op_eq (pe_ix ix_str (pv 0) pe_int (fun _ _ => rfl)) pe_str (nomark _)) (pw_and1 (pt_cmpR op_ne (pv 0) pe_str (nomark _))))))))) (pss_one (ps_ret (pe_un un_neg pe_int))) pss_nil)
      (pss_one (ps_ret (pe_callTy call_int_str rfl G.int bInt (pa_cons (pv 0) pa_nil)))), ?_⟩
    have zl : x.length ≤ sizeLine := big4000 (by omega)
    have no_ : isNum x = false → ∀ H', Same H H' → Q (.int (-1)) H' := fun e H' s' => by
      have := k H' s'
      unfold numL1 at this
      rw [e, if_neg Bool.false_ne_true] at this
      exact this
    refine ⟨_, rfl, rfl, _, rfl, ?_⟩
    rw [strEq, str_empty]
    refine ite2 (fun h1 => ?_) (fun h1 => ?_)
    · refine iteT ⟨_, rfl, no_ ?_ H (Same.refl H)⟩
      rw [of_decide_eq_true h1]
      decide +kernel
    · have ne : tl x ≠ [] := fun q => h1 (decide_eq_true (tl_nil_iff.mp q))
      refine ⟨_, rfl, x, rfl, fun L hL => ?_⟩
      refine lc_bad K (p := isDig) (i := 1) hL (by omega) digIn (fun c H2 C c1 c2 => ?_) (fun H2 s2 hL2 => ?_)
      · refine ⟨rfl, ?_⟩
        refine ⟨_, rfl, c, _, rfl, rfl, _, rfl, ?_⟩
        rw [digIn]
        cases e : isDig c with
        | true => exact iteF (c2 e)
        | false => exact iteT ⟨_, rfl, c1 e⟩
      · refine ⟨by decide, fun q hq => ?_⟩
        have s3 : Same H2 (upd H2 q (.lst [])) := Same.upd hq
        refine ⟨.list ((badS isDig x).map PyData.str), .list [], .lst (.of (s3 _ _ hL2)) (dpAll_ofStrs _), .lst (.of upd_same) .nil, by unfold noB; exact noB_strs _, rfl, ?_, _, rfl, ?_⟩
        · simp only [PyData.depth]
          have := depth_strs (badS isDig x)
          omega
        have s4 := s2.trans s3
        generalize upd H2 q (.lst []) = H3 at *
        rw [eqNil (noB_strs _)]
        by_cases hb : badS isDig x = []
        · rw [decide_eq_true (show (badS isDig x).map PyData.str = [] by rw [hb]; rfl)]
          refine iteF ?_
          have ed := badS_nil.mp hb
          obtain ⟨c, r', hc⟩ : ∃ c r', tl x = c :: r' := by
            cases e : tl x with
            | nil => exact absurd e ne
            | cons c r' => exact ⟨c, r', rfl⟩
          refine ⟨_, rfl, x, 0, c, rfl, rfl, zl, atI_head hc, rfl, _, rfl, ?_⟩
          rw [str_zero, sgnEq]
          have en : isNum x = (decide (tl x = [48]) || decide ((tl x).head? ≠ some 48)) := by
            unfold isNum
            rw [ed, hc]
            rfl
          have fin : isNum x = true → tCB (fun (xs : List V) H Q => ∃ a n, xs = [.str a] ∧ PySem.intText? a = some n ∧ a.length ≤ 640 ∧ Q (.int n) H) (tCons (tVar 0) tNil) [some (.str x), none] H3 Q := fun e => by
            have kk := k H3 s4
            unfold numL1 at kk
            rw [if_pos e] at kk
            exact ⟨_, rfl, x, numV x, rfl, intOf e (by omega), num_short hxd e, kk⟩
          refine ite2 (fun h2 => ?_) (fun h2 => ?_)
          · refine ⟨_, rfl, rfl, _, rfl, ?_⟩
            rw [strEq]
            by_cases h3 : x = sgn 48
            · rw [decide_eq_true h3]
              refine iteF (fin ?_)
              rw [en, decide_eq_true (eq_sgn.mp h3)]
              rfl
            · rw [decide_eq_false h3]
              refine iteT ⟨_, rfl, no_ ?_ H3 s4⟩
              rw [en, decide_eq_false fun q => h3 (eq_sgn.mpr q), hc]
              have := of_decide_eq_true h2
              rw [this]
              rfl
          · refine iteF (fin ?_)
            rw [en, hc]
            have : ¬ c = 48 := fun q => h2 (decide_eq_true q)
            simp [this]
        · rw [decide_eq_false (show ¬ (badS isDig x).map PyData.str = [] from fun q => hb (List.map_eq_nil_iff.mp q))]
          refine iteT ⟨_, rfl, no_ ?_ H3 s4⟩
          unfold isNum
          have : (tl x).all isDig = false := Bool.eq_false_iff.mpr fun q => hb (badS_nil.mpr q)
          rw [this]
          simp
/-! ### _law_is_tag -/
theorem sc41 : FnScope ["_law_word_here", "_law_sign"] ["_law_word_here"] (defScope (topS 41)) := ⟨rfl, rfl, rfl, by decide +kernel, rfl, by decide +kernel, by decide +kernel⟩
theorem ok_isTag (G : Glb mg) (D : DnE K mg "_law_is_tag" 41 ["_law_word_here"]) : OkF P w K mg base 1 "_law_is_tag" 41 ["_law_word_here"] spIsName := by
  obtain ⟨f, fd, D⟩ := D
  refine ⟨f, fd, D, D.F.ok sc41 (fun vs H Q E h => ?_) (fun cdv A outer s H vs Q E hr h => ?_)⟩
  · obtain ⟨x, rfl, _⟩ := h
    rfl
  · obtain ⟨x, rfl, hx, k⟩ := h
    refine ⟨_, pss_one (ps_ret (pe_and (pe_chain op_le op_le pe_int (pe_callB call_len_str rfl G.len bLen (pa_cons (pv 0) pa_nil)) pe_int)
      (pe_one (pe_cmpR (op_eqP hr.units) (pe_lc (own := [("_law_sign", 1)]) (g := gName 1) (tt := tTest (tOp rNotInS (tVar 1) (tC (.str "abcdefghijklmnopqrstuvwxyz")))) rfl sc41.nd (pi_str (pv 0)) (blkOk_by (N := ["_law_word_here", "_law_sign"]) (sc := defScope (topS 41)) (by decide +kernel))
          (fun _ _ _ _ _ => pg_name (i := 1) sc41.nd rfl (Or.inl rfl)) (fun _ _ _ _ _ => pts_one (pt_cmpR op_notInS (pv 1) pe_str (by with_unfolding_all rfl))) (fun _ _ _ _ _ => pv 1)) (pe_lst pa_nil) (nomark _))))), ?_⟩
    have zl : x.length ≤ sizeLine := big4000 hx
    refine ⟨_, rfl, x, rfl, zl, _, _, rfl, rfl, _, rfl, ?_⟩
    have no_ : isTag x = false → Q (.bl false) H := fun e => by
      have := k H (Same.refl H)
      rw [e] at this
      exact this
    refine ite2 (fun h1 => ?_) (fun h1 => ?_)
    · have h1' : 1 ≤ x.length := by
        have := of_decide_eq_true h1
        omega
      refine ⟨_, _, rfl, rfl, _, rfl, ?_⟩
      refine ite2 (fun h2 => ?_) (fun h2 => ?_)
      · have h2' : x.length ≤ 8 := by
          have := of_decide_eq_true h2
          omega
        refine ⟨_, rfl, x, rfl, fun L hL => ?_⟩
        refine lc_bad K (p := isLow) (i := 1) hL (by omega) lowIn (fun c H2 C c1 c2 => ?_) (fun H2 s2 hL2 => ?_)
        · refine ⟨rfl, ?_⟩
          refine ⟨_, rfl, c, _, rfl, rfl, _, rfl, ?_⟩
          rw [lowIn]
          cases e : isLow c with
          | true => exact iteF (c2 e)
          | false => exact iteT ⟨_, rfl, c1 e⟩
        · refine ⟨by decide, fun q hq => ?_⟩
          have s3 : Same H2 (upd H2 q (.lst [])) := Same.upd hq
          refine ⟨.list ((badS isLow x).map PyData.str), .list [], .lst (.of (s3 _ _ hL2)) (dpAll_ofStrs _), .lst (.of upd_same) .nil, by unfold noB; exact noB_strs _, rfl, ?_, ?_⟩
          · simp only [PyData.depth]
            have := depth_strs (badS isLow x)
            omega
          rw [eqNil (noB_strs _)]
          have e : decide ((badS isLow x).map PyData.str = []) = isTag x := by
            unfold isTag
            rw [decide_eq_true h1', decide_eq_true h2', Bool.eq_iff_iff]
            simp only [decide_eq_true_eq, List.map_eq_nil_iff, badS_nil, Bool.true_and]
          rw [e]
          exact k _ (s2.trans s3)
      · refine no_ ?_
        unfold isTag
        rw [show decide (x.length ≤ 8) = false from decide_eq_false fun q => h2 (decide_eq_true (by omega)), Bool.and_false, Bool.false_and]
    · refine ⟨_, rfl, iteF (no_ ?_)⟩
      unfold isTag
      rw [show decide (1 ≤ x.length) = false from decide_eq_false fun q => h1 (decide_eq_true (by omega)), Bool.false_and, Bool.false_and]
end
end K3

/-! The law's own defs, 3: span_told. -/
namespace K3
open PySem PySem.Spec PyProof.Rows L2 TL
theorem numL1_some {p : Str} (h : numL1 p ≠ -1) : numP p = some (numL1 p) := by
  unfold numL1 at h ⊢
  unfold numP
  split
  · rfl
  · rename_i e
    rw [if_neg e] at h
    exact absurd rfl h
theorem spanP_1 {x : Str} {a : Int} (h : (Txt.split x dash).map numP = [a].map some) : spanP x = if a ≤ 4000 then some (a, a) else none := by
  unfold spanP
  rw [h]
  rfl
theorem spanP_2 {x : Str} {a b : Int} (h : (Txt.split x dash).map numP = [a, b].map some) : spanP x = if a < b ∧ b ≤ 4000 then some (a, b) else none := by
  unfold spanP
  rw [h]
  rfl
theorem numL1_none {p : Str} (h : numL1 p = -1) : numP p = none := by
  unfold numL1 at h
  unfold numP
  split at h
  · have := num_nonneg p
    omega
  · rename_i e
    rw [if_neg e]
theorem nums_some : ∀ {ps : List Str}, -1 ∉ ps.map numL1 → ps.map numP = (ps.map numL1).map some
  | [], _ => rfl
  | p :: ps, h => by
    simp only [List.map_cons, List.mem_cons, not_or] at h ⊢
    rw [numL1_some (Ne.symm h.1), nums_some h.2]
theorem nums_none {ps : List Str} (h : -1 ∈ ps.map numL1) : none ∈ ps.map numP := by
  obtain ⟨p, hp, e⟩ := List.mem_map.mp h
  exact List.mem_map.mpr ⟨p, hp, numL1_none e⟩
theorem inInt (x : Int) (ws : List Int) : inV (.int x) (ws.map V.int) = decide (x ∈ ws) := by
  unfold inV
  rw [Bool.eq_iff_iff, List.any_map, List.any_eq_true, decide_eq_true_eq]
  constructor
  · rintro ⟨o, ho, e⟩
    have e : (o == x) = true := e
    rw [← beq_iff_eq.mp e]
    exact ho
  · intro h
    exact ⟨x, h, beq_self_eq_true x⟩
theorem ints_flat (ws : List Int) : (ws.map V.int).all flatV = true := by
  rw [List.all_map, List.all_eq_true]
  intro o _
  rfl
def spansD : Option Span → List PyData
  | none => []
  | some s => [spanD s]
theorem dpAll_ints {K : PySem.W.Frag} {H : Hp} : ∀ {vs : List V} {ws : List Int}, DpAll K H vs (ws.map PyData.int) → vs = ws.map V.int
  | _, [], .nil => rfl
  | _, w :: ws, .cons a t => by
    cases a
    rw [dpAll_ints t]
    rfl
section
variable {P : Program} {w : World} {K : PySem.W.Frag} {mg : Str → Option Value} {base : Heap}
def spSpT (K : PySem.W.Frag) : Sp := fun vs H Q _ => ∃ x : Str, vs = [.str x] ∧ TxtOk x ∧ ∀ b ys H', Same H H' → H' b = some (.lst ys) → DpAll K H' ys (spansD (spanP x)) → Q (.ref b) H'
theorem sc40 : FnScope ["_law_word_here", "_law_ends", "_law_part"] ["_law_word_here"] (defScope (topS 40)) := ⟨rfl, rfl, rfl, by decide +kernel, rfl, by decide +kernel, by decide +kernel⟩
theorem ok_spT (G : Glb mg) (D : DnE K mg "_law_span_told" 40 ["_law_word_here"]) (A1 : OkF P w K mg base 1 "_law_number" 39 ["_law_word_here"] spNum) : OkF P w K mg base 2 "_law_span_told" 40 ["_law_word_here"] (spSpT K) := by
  obtain ⟨f, fd, D⟩ := D
  obtain ⟨f1, fd1, D1, G1⟩ := A1
  refine ⟨f, fd, D, D.F.ok sc40 (fun vs H Q E h => ?_) (fun cdv A outer s H vs Q E hr h => ?_)⟩
  · obtain ⟨x, rfl, _⟩ := h
    rfl
  · obtain ⟨x, rfl, hxx, k⟩ := h
    obtain ⟨hx, hxd⟩ := id hxx
    refine ⟨_, pss_cons (ps_setLc (i := 1) (own := [("_law_part", 2)]) (g := gName 2) (tt := tYes) rfl sc40.nd rfl rfl (sw_true rfl rfl rfl (by decide +kernel)) (pi_list (pe_split (pv 0) pe_str)) (blkOk_by (N := ["_law_word_here", "_law_ends", "_law_part"]) (sc := defScope (topS 40)) (by decide +kernel))
        (fun _ _ _ _ _ => pg_name (i := 2) sc40.nd rfl (Or.inl rfl)) (fun _ _ _ _ _ => pts_nil) (fun _ _ _ _ _ => pe_call G1 hr rfl D1.m D1.F.kp D1.b .nil pass0 (pa_cons (pv 2) pa_nil)))
      (pss_cons (ps_if (PW.pt (pw_or (pt_cmpR op_gt (pe_callB call_len_seq rfl G.len bLen (pa_cons (pv 1) pa_nil)) pe_int (nomark _))
        (pw_or (pt_cmpR op_in_seq (pe_un un_neg pe_int) (pv 1) (by with_unfolding_all rfl))
        (pw_or (PW.pt (pw_and (pt_cmpR op_eq (pe_callB call_len_seq rfl G.len bLen (pa_cons (pv 1) pa_nil)) pe_int (nomark _)) (pw_and1 (pt_cmpR op_ge (pe_ix ix_list (pv 1) pe_int (fun _ _ => rfl)) (pe_ix ix_list (pv 1) pe_int (fun _ _ => rfl)) (nomark _)))))
        (pw_or1 (pt_cmpR op_gt (pe_ix ix_list (pv 1) (pe_un un_neg pe_int) (fun _ _ => rfl)) pe_int (nomark _))))))) (pss_one (ps_ret (pe_lst pa_nil))) pss_nil)
      (pss_one (ps_ret (pe_lst (pa_cons (pe_tup (pa_cons (pe_ix ix_list (pv 1) pe_int (fun _ _ => rfl)) (pa_cons (pe_ix ix_list (pv 1) (pe_un un_neg pe_int) (fun _ _ => rfl)) pa_nil))) pa_nil))))), ?_⟩
    refine ⟨_, rfl, ⟨_, rfl⟩, x, _, rfl, rfl, rfl, by rw [sizeLine_eq]; omega, fun p0 hp0 => ⟨p0, rfl, ⟨_, .of upd_same⟩, fun L hL => ?_⟩⟩
    rw [str_dash] at hL ⊢
    have s0 : Same H (upd H p0 (.lst ((Txt.split x dash).map V.str))) := Same.upd hp0
    have lenP : (Txt.split x dash).length ≤ 4000 := Nat.le_trans (split_count x dash_lt) (by omega)
    refine lc_data (K := K) (walk_list (xs := (Txt.split x dash).map V.str)) (fun i => (((Txt.split x dash).map numL1)[i]?).map PyData.int) hL (by rw [List.length_map]; exact lenP) (fun H2 s2 => s2.seq (.of upd_same)) (fun i d e => ?_) (fun i v H2 H3 C hi s2 y c1 c2 => ?_) (fun H2 ys s2 hys r => ?_)
    · obtain ⟨c, _, rfl⟩ := Option.map_eq_some_iff.mp e
      simp [flatD]
    · obtain ⟨rfl, hc⟩ := y
      rw [List.getElem?_map] at hc
      obtain ⟨q, hq, rfl⟩ := Option.map_eq_some_iff.mp hc
      refine ⟨rfl, tyes ?_⟩
      have lq : q.length ≤ x.length := split_len x dash_lt q (List.mem_of_getElem? hq)
      refine ⟨_, rfl, q, rfl, hxx.part dash_lt (List.mem_of_getElem? hq), fun H4 s4 => c1 _ _ (.int (numL1 q)) s4 ?_ (.int _)⟩
      rw [List.getElem?_map, hq]
      rfl
    · have e : (List.range ((Txt.split x dash).map V.str).length).filterMap (fun i => (((Txt.split x dash).map numL1)[i]?).map PyData.int) = ((Txt.split x dash).map numL1).map PyData.int := by
        rw [List.length_map, ← List.length_map (f := numL1)]
        exact fm_some PyData.int _
      rw [e] at r
      have hys' : H2 L = some (.lst (((Txt.split x dash).map numL1).map V.int)) := hys.trans (congrArg (fun z => some (HO.lst z)) (dpAll_ints r))
      have sH : Same H H2 := s0.trans s2
      clear r hys
      have none_ : spanP x = none → ∀ b, H2 b = none → Q (.ref b) (upd H2 b (.lst [])) := fun e b hb => k b [] _ (sH.trans (Same.upd hb)) upd_same (by rw [e]; exact .nil)
      refine ⟨_, rfl, L, _, rfl, .inl (.of hys'), _, _, rfl, rfl, _, rfl, ?_⟩
      refine ite2 (fun h1 => ?_) (fun h1 => ?_)
      · have h1' : 2 < ((Txt.split x dash).map numP).length := by
          have := of_decide_eq_true h1
          rw [List.length_map, List.length_map] at this
          rw [List.length_map]
          omega
        exact iteT ⟨by decide, none_ (spanP_none (.inr h1'))⟩
      · have h1' : (Txt.split x dash).length ≤ 2 := by
          have : ¬ (2 : Int) < (((((Txt.split x dash).map numL1).map V.int).length : Nat) : Int) := fun q => h1 (decide_eq_true q)
          rw [List.length_map, List.length_map] at this
          omega
        refine ⟨1, rfl, _, rfl, L, _, rfl, .inl (.of hys'), rfl, ints_flat _, _, rfl, ?_⟩
        show if inV (V.int (-1)) _ = true then _ else _
        rw [inInt]
        refine ite2 (fun h2 => ?_) (fun h2 => ?_)
        · exact iteT ⟨by decide, none_ (spanP_none (.inl (nums_none (of_decide_eq_true h2))))⟩
        · have hnum := nums_some (ps := Txt.split x dash) fun q => h2 (decide_eq_true q)
          have hne := split_ne x dash_lt
          have hli : ((Txt.split x dash).map numL1).length = (Txt.split x dash).length := List.length_map ..
          generalize (Txt.split x dash).map numL1 = is at *
          have out : ∀ a b : Int, spanP x = some (a, b) → ∀ t, H2 t = none → 1 ≤ sizeLine ∧ ∀ b', (upd H2 t (.tup [.int a, .int b])) b' = none → Q (.ref b') (upd (upd H2 t (.tup [.int a, .int b])) b' (.lst [.ref t])) := by
            intro a b e t ht
            refine ⟨big4000 (by decide), fun b' hb' => ?_⟩
            have s3 : Same H2 (upd H2 t (.tup [.int a, .int b])) := Same.upd ht
            have s4 : Same (upd H2 t (.tup [.int a, .int b])) (upd (upd H2 t (.tup [.int a, .int b])) b' (.lst [.ref t])) := Same.upd hb'
            refine k b' _ _ ((sH.trans s3).trans s4) upd_same ?_
            rw [e]
            exact .cons (dp_same s4 (dp_span_of (s := (a, b)) (.of upd_same))) .nil
          match is, hli, hnum with
          | [], hli, _ =>
            exact absurd (List.length_eq_zero_iff.mp hli.symm) hne
          | [a], hli, hnum =>
            have hsp := spanP_1 hnum
            refine ⟨_, rfl, L, _, rfl, .inl (.of hys'), rfl, _, rfl, iteF ?_⟩
            refine ⟨_, rfl, 1, rfl, L, _, -1, V.int a, rfl, rfl, .of hys', atI_last rfl, _, _, rfl, rfl, _, rfl, ?_⟩
            refine ite2 (fun h3 => ?_) (fun h3 => ?_)
            · refine ⟨by decide, none_ ?_⟩
              have := of_decide_eq_true h3
              rw [hsp, if_neg (by omega)]
            · have : ¬ (4000 : Int) < a := fun q => h3 (decide_eq_true q)
              rw [if_pos (by omega)] at hsp
              exact ⟨_, rfl, L, _, 0, V.int a, rfl, rfl, .of hys', rfl, _, rfl, 1, rfl, L, _, -1, V.int a, rfl, rfl, .of hys', atI_last rfl, by show 2 ≤ sizeLine; exact big4000 (by decide), out a a hsp⟩
          | [a, b], hli, hnum =>
            have hsp := spanP_2 hnum
            refine ⟨_, rfl, L, _, rfl, .inl (.of hys'), rfl, _, rfl, iteT ?_⟩
            refine ⟨_, rfl, L, _, 0, V.int a, rfl, rfl, .of hys', rfl, _, rfl, L, _, 1, V.int b, rfl, rfl, .of hys', rfl, _, _, rfl, rfl, _, rfl, ?_⟩
            refine ite2 (fun h3 => ?_) (fun h3 => ?_)
            · refine iteT ⟨by decide, none_ ?_⟩
              have := of_decide_eq_true h3
              rw [hsp, if_neg (by omega)]
            · have h3' : ¬ b ≤ a := fun q => h3 (decide_eq_true q)
              refine ⟨_, rfl, 1, rfl, L, _, -1, V.int b, rfl, rfl, .of hys', atI_last rfl, _, _, rfl, rfl, _, rfl, ?_⟩
              refine ite2 (fun h4 => ?_) (fun h4 => ?_)
              · refine ⟨by decide, none_ ?_⟩
                have := of_decide_eq_true h4
                rw [hsp, if_neg (by omega)]
              · have : ¬ (4000 : Int) < b := fun q => h4 (decide_eq_true q)
                rw [if_pos (by omega)] at hsp
                exact ⟨_, rfl, L, _, 0, V.int a, rfl, rfl, .of hys', rfl, _, rfl, 1, rfl, L, _, -1, V.int b, rfl, rfl, .of hys', atI_last rfl, by show 2 ≤ sizeLine; exact big4000 (by decide), out a b hsp⟩
          | _ :: _ :: _ :: _, hli, _ =>
            simp at hli
            omega
end
end K3

/-! The law's own defs, 4: told. -/
namespace K3
open PySem PySem.Spec PyProof.Rows L2 TL
theorem rowP_4 {x w0 w1 w2 w3 : Str} (h : Txt.split x spc = [w0, w1, w2, w3]) : rowP x = if w0 = areaS ∧ w2 ≠ Str.empty then (spanP w3).map fun s => (w1, (if w2 = dash then Str.empty else w2), s) else none := by
  unfold rowP
  rw [h]
def paOk (ns : List Str) (w2 : Str) : Bool := if ns = [] then decide (w2 = dash) else decide (w2 ∈ ns)
theorem row_good {ns : List Str} {x w0 w1 w2 w3 : Str} {s : Span} (hns : ∀ n ∈ ns, isTag n = true) (h : Txt.split x spc = [w0, w1, w2, w3]) (h0 : w0 = areaS) (h1 : isTag w1 = true) (h2 : w1 ∉ ns) (h3 : spanP w3 = some s) (h4 : paOk ns w2 = true) :
    rowP x = some (w1, (if ns = [] then Str.empty else w2), s) ∧ lineOk ns (w1, (if ns = [] then Str.empty else w2), s) = true := by
  have so := (spanP_some h3).1
  rw [rowP_4 h]
  unfold paOk at h4
  by_cases hn : ns = []
  · rw [if_pos hn] at h4 ⊢
    have e2 := of_decide_eq_true h4
    have ne : dash ≠ Str.empty := fun q => by
      have := congrArg Str.length q
      exact absurd this (by decide)
    rw [if_pos ⟨h0, by rw [e2]; exact ne⟩, h3]
    refine ⟨by simp [e2], ?_⟩
    unfold lineOk
    rw [h1, decide_eq_false h2, if_pos hn, so]
    rfl
  · rw [if_neg hn] at h4 ⊢
    have e2 := of_decide_eq_true h4
    have ht := hns w2 e2
    rw [if_pos ⟨h0, isTag_ne ht⟩, h3]
    refine ⟨by simp [isTag_dash ht], ?_⟩
    unfold lineOk
    rw [h1, decide_eq_false h2, if_neg hn, so, decide_eq_true e2]
    rfl
theorem row_bad {ns : List Str} {x w0 w1 w2 w3 : Str} (hns : ∀ n ∈ ns, isTag n = true) (h : Txt.split x spc = [w0, w1, w2, w3]) (hb : w0 = areaS → isTag w1 = true → w1 ∉ ns → (∃ s, spanP w3 = some s) → paOk ns w2 = true → False) : lineB ns (rowP x) = false := by
  rw [Bool.eq_false_iff]
  intro hl
  rw [rowP_4 h] at hl
  by_cases c : w0 = areaS ∧ w2 ≠ Str.empty
  · rw [if_pos c] at hl
    cases e : spanP w3 with
    | none =>
      rw [e] at hl
      cases hl
    | some s =>
      rw [e] at hl
      have hl : lineOk ns (w1, (if w2 = dash then Str.empty else w2), s) = true := hl
      unfold lineOk at hl
      simp only [Bool.and_eq_true, Bool.not_eq_true', decide_eq_false_iff_not] at hl
      obtain ⟨⟨⟨l1, l2⟩, l3⟩, _⟩ := hl
      refine hb c.1 l1 l2 ⟨s, e⟩ ?_
      unfold paOk
      by_cases hn : ns = []
      · rw [if_pos hn] at l3 ⊢
        have l3 := of_decide_eq_true l3
        by_cases e2 : w2 = dash
        · exact decide_eq_true e2
        · rw [if_neg e2] at l3
          exact absurd l3 c.2
      · rw [if_neg hn] at l3 ⊢
        have l3 := of_decide_eq_true l3
        by_cases e2 : w2 = dash
        · rw [if_pos e2] at l3
          exact absurd rfl (isTag_ne (hns _ l3))
        · rw [if_neg e2] at l3
          exact decide_eq_true l3
  · rw [if_neg c] at hl
    cases hl
theorem spansNil (o : Option Span) : decide (spansD o = []) = !o.isSome := by
  cases o <;> simp [spansD]
theorem noB_spans (o : Option Span) : noBs (spansD o) = true := by
  cases o with
  | none => rfl
  | some s => simp [spansD, noBs, noB_span]
theorem noBs_lines (ls : List Line) : noBs (ls.map lineD) = true := noBs_all fun d hd => by
  obtain ⟨l, _, e⟩ := List.mem_map.mp hd
  rw [← e]
  exact noB_line l
theorem flatDs_lines (ls : List Line) : flatDs (ls.map lineD) = true := flatDs_all fun d hd => by
  obtain ⟨l, _, e⟩ := List.mem_map.mp hd
  rw [← e]
  exact flat_line l
theorem depthAll_lines (ls : List Line) : PyData.depthAll (ls.map lineD) ≤ 2 := depthAll_le fun d hd => by
  obtain ⟨l, _, e⟩ := List.mem_map.mp hd
  rw [← e, depth_line]
  exact Nat.le_refl _
theorem depth_spans (o : Option Span) : PyData.depthAll (spansD o) ≤ 1 := by
  cases o with
  | none => exact Nat.zero_le _
  | some s => simp [spansD, PyData.depthAll, depth_span]
theorem tyx_keep {K : PySem.W.Frag} {H H' : Hp} {x : V} {t : Value} (h : TyX K H x t) (k : ∀ a o, x = .ref a → H a = some o → H' a = some o) : TyX K H' x t := by
  cases h with
  | base h =>
    cases h with
    | non => exact .base .non
    | bl b => exact .base (.bl b)
    | int i => exact .base (.int i)
    | str y => exact .base (.str y)
    | flt y => exact .base (.flt y)
    | lst e => exact .base (.lst (k _ _ rfl e))
    | frz e => exact .base (.frz (k _ _ rfl e))
    | tup e => exact .base (.tup (k _ _ rfl e))
    | dK e => exact .base (.dK (k _ _ rfl e))
    | dT e => exact .base (.dT (k _ _ rfl e))
    | ins e cl ha hn htk hm => exact .base (.ins (k _ _ rfl e) cl ha hn htk hm)
  | byt b => exact .byt b
  | set e => exact .set (k _ _ rfl e)
  | kList e c => exact .kList e c
  | kTuple e c => exact .kTuple e c
  | kDict e c => exact .kDict e c
  | fTuple e => exact .fTuple (k _ _ rfl e)
  | fDict e => exact .fDict (k _ _ rfl e)
theorem tyx_same {K : PySem.W.Frag} {H H' : Hp} {x : V} {t : Value} (h : TyX K H x t) (s : Same H H') : TyX K H' x t := tyx_keep h fun a o _ e => s _ _ e
theorem sqL_upd {K : PySem.W.Frag} {H : Hp} {p a : Addr} {o : HO} {xs : List V} (h : SqL K H p xs) (n : p ≠ a) : SqL K (upd H a o) p xs := by
  rcases h with (h | ⟨u, h⟩) | h
  · exact .inl (.inl (by rw [upd_ne n]; exact h))
  · exact .inl (.inr ⟨u, by rw [upd_ne n]; exact h⟩)
  · exact .inr h
section
variable {P : Program} {w : World} {K : PySem.W.Frag} {mg : Str → Option Value} {base : Heap}
/-- what the reader is given, and what it should answer -/
def ReadsAs (K : PySem.W.Frag) (H : Hp) (x : V) (o : Option (List Line)) : Prop := (∃ t, x = .str t ∧ TxtOk t ∧ o = toldT t) ∨ (∃ ty, TyX K H x ty ∧ PySem.W.kitOne K ty (.type "str") = some false ∧ o = none)
def spLTold (K : PySem.W.Frag) : Sp := fun vs H Q _ => ∃ (x : V) (o : Option (List Line)), vs = [x] ∧ ReadsAs K H x o ∧ ∀ b ys H', Same H H' → H' b = some (.lst ys) → DpAll K H' ys ((o.getD []).map lineD) → Q (.ref b) H'
theorem sc42 : FnScope ["_law_text", "_law_found", "_law_tags_here", "_law_row", "_law_words", "_law_span"] ["_law_text"] (defScope (topS 42)) := ⟨rfl, rfl, rfl, by decide +kernel, rfl, by decide +kernel, by decide +kernel⟩
theorem ok_lTold (G : Glb mg) (D : DnE K mg "_law_told" 42 ["_law_text"]) (A1 : OkF P w K mg base 1 "_law_is_tag" 41 ["_law_word_here"] spIsName) (A2 : OkF P w K mg base 2 "_law_span_told" 40 ["_law_word_here"] (spSpT K)) : OkF P w K mg base 3 "_law_told" 42 ["_law_text"] (spLTold K) := by
  obtain ⟨f, fd, D⟩ := D
  obtain ⟨f1, fd1, D1, G1⟩ := A1
  obtain ⟨f2, fd2, D2, G2⟩ := A2
  refine ⟨f, fd, D, D.F.ok sc42 (fun vs H Q E h => ?_) (fun cdv A outer s H vs Q E hr h => ?_)⟩
  · obtain ⟨x, o, rfl, _⟩ := h
    rfl
  · obtain ⟨x, o, rfl, hx, k⟩ := h
    refine ⟨_, pss_cons (ps_par (i := 1) (j := 2) (by rfl) sc42.nd rfl rfl (by decide) rfl rfl (pa_cons (pe_lst pa_nil) (pa_cons (pe_lst pa_nil) pa_nil)) (by rfl))
      (pss_cons (ps_for PassesOwn.never rfl (pi_list (pe_ifExp (pt_val (pe_callB call_isi rfl G.isi bIsi (pa_cons (pv 0) (pa_cons (pe_bltn (v := .ty "str") rfl G.str bStr rfl) pa_nil)))) (pe_split (pv 0) pe_str) (pe_lst (pa_cons pe_str pa_nil)))) (pg_name (i := 3) sc42.nd rfl (Or.inl rfl))
        (pss_cons (ps_set (i := 4) sc42.nd rfl (Or.inl rfl) (pe_split (pv 3) pe_str))
        (pss_cons (ps_if (PW.pt (pw_or (pt_cmpR op_ne (pe_callB call_len_seq rfl G.len bLen (pa_cons (pv 4) pa_nil)) pe_int (nomark _)) (pw_or (pt_cmpR op_ne (pe_ix ix_list (pv 4) pe_int (fun _ _ => rfl)) pe_str (nomark _))
          (pw_or (pt_not (pt_val (pe_call G1 (hr.mono (by decide)) rfl D1.m D1.F.kp D1.b .nil pass0 (pa_cons (pe_ix ix_list (pv 4) pe_int (fun _ _ => rfl)) pa_nil))))
          (pw_or1 (pt_cmpR op_in_seq (pe_ix ix_list (pv 4) pe_int (fun _ _ => rfl)) (pv 2) (by with_unfolding_all rfl))))))) (pss_one (ps_ret (pe_lst pa_nil))) pss_nil)
        (pss_cons (ps_set (i := 5) sc42.nd rfl (Or.inl rfl) (pe_call G2 hr rfl D2.m D2.F.kp D2.b .nil pass0 (pa_cons (pe_ix ix_list (pv 4) pe_int (fun _ _ => rfl)) pa_nil)))
        (pss_cons (ps_if (PW.pt (pw_or (pt_cmpR (op_eqP hr.units) (pv 5) (pe_lst pa_nil) (nomark _)) (pw_or (pt_cmpR op_eq (pe_callB call_len_seq rfl G.len bLen (pa_cons (pv 1) pa_nil)) pe_int (nomark _))
          (pw_or1 (pt_ifx (pt_cmpR (op_eqP hr.units) (pv 1) (pe_lst pa_nil) (nomark _)) (pt_cmpR op_ne (pe_ix ix_list (pv 4) pe_int (fun _ _ => rfl)) pe_str (nomark _)) (pt_cmpR op_notIn_seq (pe_ix ix_list (pv 4) pe_int (fun _ _ => rfl)) (pv 2) (by with_unfolding_all rfl))))))) (pss_one (ps_ret (pe_lst pa_nil))) pss_nil)
        (pss_cons (ps_expr (pe_bm PySem.F.plainAttrs_list PySem.F.slot_list_append PySem.F.type_list_append mt_append (pv 1) (pa_cons (pe_tup (pa_cons (pe_ix ix_list (pv 4) pe_int (fun _ _ => rfl))
          (pa_cons (pe_ifExp (pt_cmpR (op_eqP hr.units) (pv 1) (pe_lst pa_nil) (nomark _)) pe_str (pe_ix ix_list (pv 4) pe_int (fun _ _ => rfl))) (pa_cons (pe_ix ix_list (pv 5) pe_int (fun _ _ => rfl)) pa_nil)))) pa_nil)))
        (pss_one (ps_expr (pe_bm PySem.F.plainAttrs_list PySem.F.slot_list_append PySem.F.type_list_append mt_append (pv 2) (pa_cons (pe_ix ix_list (pv 4) pe_int (fun _ _ => rfl)) pa_nil))))))))))
      (pss_one (ps_ret (pv 1)))), ?_⟩
    refine ⟨by decide, fun a ha => ⟨by decide, fun b hb => ⟨_, _, rfl, ?_⟩⟩⟩
    have s0 : Same H (upd H a (.lst [])) := Same.upd ha
    have s1 : Same (upd H a (.lst [])) (upd (upd H a (.lst [])) b (.lst [])) := Same.upd hb
    have haa : (upd H a (.lst [])) a = some (.lst []) := upd_same
    have nab : a ≠ b := ne_of_none haa hb
    have hbH : H b = none := s0.free hb
    have haH : H a = none := ha
    have ha1 : (upd (upd H a (.lst [])) b (.lst [])) a = some (.lst []) := s1 _ _ haa
    have hb1 : (upd (upd H a (.lst [])) b (.lst [])) b = some (.lst []) := upd_same
    have s01 := s0.trans s1
    generalize upd (upd H a (.lst [])) b (.lst []) = H1 at *
    clear s0 s1 haa hb ha
    rcases hx with ⟨t, rfl, ht, rfl⟩ | ⟨ty, hty, hk, rfl⟩
    · refine ⟨_, rfl, _, _, _, _, true, rfl, .ty "str", .base (.str _), kit_ty (by decide +kernel), _, rfl, iteT ?_⟩
      refine ⟨_, rfl, ⟨_, rfl⟩, t, _, rfl, rfl, rfl, by have := ht.1; rw [sizeLine_eq]; omega, fun p hp => ⟨p, rfl, ⟨_, .of upd_same⟩, ?_⟩⟩
      rw [str_nl] at *
      obtain ⟨rows, er⟩ : ∃ rows, rows = Txt.split t nlS := ⟨_, rfl⟩
      have hlen : ∀ r ∈ rows, TxtOk r := fun r hr => by
        rw [er] at hr
        exact ht.part (show (10 : Nat) < 256 by decide) hr
      have hcount : rows.length ≤ 4000 := by
        rw [er]
        exact Nat.le_trans (split_count t (show (10 : Nat) < 256 by decide)) (by have := ht.1; omega)
      have hne : rows ≠ [] := by
        rw [er]
        exact split_ne t (by decide)
      have fin1 : okAll (rows.map rowP) = true → ((toldT t).getD []) = allSome (rows.map rowP) := fun e => by
        unfold toldT
        rw [← er, if_pos e]
        rfl
      have fin0 : okAll (rows.map rowP) = false → ((toldT t).getD []) = [] := fun e => by
        unfold toldT
        rw [← er, e, if_neg Bool.false_ne_true]
        rfl
      generalize (toldT t).getD [] = res at *
      rw [← er]
      have nap : a ≠ p := ne_of_none ha1 hp
      have nbp : b ≠ p := ne_of_none hb1 hp
      have sp : Same H1 (upd H1 p (.lst (rows.map V.str))) := Same.upd hp
      have hrows : SqL K (upd H1 p (.lst (rows.map V.str))) p (rows.map V.str) := .of upd_same
      generalize upd H1 p (.lst (rows.map V.str)) = H2 at *
      refine for_it (walk_list (K := K) (a := p) (xs := rows.map V.str)) (fun i σ H3 => ∃ (ls : List Line) (ys : List V) (u v z : Option V), σ = [some (V.str t), some (.ref a), some (.ref b), u, v, z] ∧ Same H H3 ∧ SqL K H3 p (rows.map V.str) ∧ H3 a = some (.lst ys) ∧ DpAll K H3 ys (ls.map lineD) ∧
          H3 b = some (.lst ((ls.map (·.1)).map V.str)) ∧ ls.length = i ∧ i ≤ 10 ∧ (rows.take i).map rowP = ls.map some ∧ okFrom [] (rows.map rowP) = okFrom (ls.map (·.1)) ((rows.drop i).map rowP) ∧ ∀ n ∈ ls.map (·.1), isTag n = true)
        ⟨[], [], none, none, none, rfl, s01.trans sp, hrows, sp _ _ ha1, .nil, sp _ _ hb1, rfl, Nat.zero_le _, rfl, rfl, fun n hn => by simp at hn⟩ (fun i σ H2 _ ⟨_, _, _, _, _, _, _, s, _⟩ => s) ?_ ?_
      · rintro i xv σ H3 H4 hi ⟨ls, ys, u, v, z, rfl, s3, hr3, ha3, hd3, hb3, hl3, hi10, htk, hok, htag⟩ ⟨rfl, hxv⟩
        rw [List.getElem?_map] at hxv
        obtain ⟨row, hrow, rfl⟩ := Option.map_eq_some_iff.mp hxv
        have hrt := hlen row (List.mem_of_getElem? hrow)
        have hrl := hrt.1
        have hdrop : (rows.drop i).map rowP = rowP row :: (rows.drop (i + 1)).map rowP := by
          have hlt := (List.getElem?_eq_some_iff.mp hrow)
          obtain ⟨h1, h2⟩ := hlt
          rw [List.drop_eq_getElem_cons h1, h2]
          rfl
        have htake : (rows.take (i + 1)).map rowP = (rows.take i).map rowP ++ [rowP row] := by
          rw [List.take_succ, hrow, List.map_append]
          rfl
        have lns : (ls.map (·.1)).length = i := by rw [List.length_map, hl3]
        have stop : (lineB (ls.map (·.1)) (rowP row) = false ∨ (ls.map (·.1)).length = 10) → ∀ H5, Same H H5 → ∀ q, H5 q = none → Q (.ref q) (upd H5 q (.lst [])) := fun hb H5 s5 q hq => by
          refine k q [] _ (s5.trans (Same.upd hq)) upd_same ?_
          have e : okAll (rows.map rowP) = false := by
            unfold okAll
            rw [hok, hdrop, okFrom_bad (hb.elim .inr .inl), Bool.and_false]
          rw [fin0 e]
          exact .nil
        -- words = row.split(' ')
        refine ⟨_, rfl, ⟨_, rfl⟩, row, _, rfl, rfl, rfl, by rw [sizeLine_eq]; omega, fun q hq => ?_⟩
        rw [str_spc]
        have naq : a ≠ q := ne_of_none ha3 hq
        have nbq : b ≠ q := ne_of_none hb3 hq
        have sq : Same H4 (upd H4 q (.lst ((Txt.split row spc).map V.str))) := Same.upd hq
        have hw : SqL K (upd H4 q (.lst ((Txt.split row spc).map V.str))) q ((Txt.split row spc).map V.str) := .of upd_same
        have hwl := split_len row (show (32 : Nat) < 256 by decide)
        have s4 := s3.trans sq
        have ha4 := sq _ _ ha3
        have hb4 := sq _ _ hb3
        have hd4 := dpAll_same sq hd3
        have hr4 : SqL K (upd H4 q (.lst ((Txt.split row spc).map V.str))) p (rows.map V.str) := sq.seq hr3
        generalize upd H4 q (.lst ((Txt.split row spc).map V.str)) = H5 at *
        clear sq hq ha3 hb3 hd3 hr3 s3
        refine ⟨_, rfl, q, _, rfl, .inl hw, rfl, _, rfl, ?_⟩
        rw [intEq, List.length_map]
        by_cases h4 : (Txt.split row spc).length = 4
        · have e4 : ((Txt.split row spc).length : Int) = 4 := by omega
          rw [decide_eq_true e4]
          refine iteF ?_
          match hsp : Txt.split row spc, h4 with
          | [w0, w1, w2, w3], _ =>
            rw [hsp] at hw hwl
            have hw : SqL K H5 q [.str w0, .str w1, .str w2, .str w3] := hw
            refine ⟨_, rfl, q, _, 0, V.str w0, rfl, rfl, hw, rfl, rfl, _, rfl, ?_⟩
            rw [strEq]
            by_cases h0 : w0 = areaS
            · rw [decide_eq_true (show w0 = Str.ofString "area" from h0)]
              refine iteF ?_
              have l1 := hwl w1 (by simp)
              refine ⟨_, rfl, q, _, 1, V.str w1, rfl, rfl, hw, rfl, w1, rfl, by omega, fun H6 s6 => ⟨_, rfl, ?_⟩⟩
              have hw6 : SqL K H6 q _ := s6.seq hw
              have s6' := s4.trans s6
              cases h1 : isTag w1 with
              | false =>
                refine iteT (iteT ⟨by decide, stop (.inl (row_bad htag hsp fun _ z => by rw [h1] at z; cases z)) _ s6'⟩)
              | true =>
                refine iteF ?_
                refine ⟨_, rfl, q, _, 1, V.str w1, rfl, rfl, hw6, rfl, _, rfl, b, _, rfl, .inl (.of (s6 _ _ hb4)), rfl, strs_flat _, _, rfl, ?_⟩
                show if inV (V.str w1) ((ls.map (·.1)).map V.str) = true then _ else _
                rw [inStr]
                by_cases h2 : w1 ∈ ls.map (·.1)
                · rw [decide_eq_true h2]
                  exact iteT ⟨by decide, stop (.inl (row_bad htag hsp fun _ _ z => absurd h2 z)) _ s6'⟩
                · rw [decide_eq_false h2]
                  refine iteF ?_
                  have l3 := hwl w3 (by simp)
                  refine ⟨_, rfl, q, _, 3, V.str w3, rfl, rfl, hw6, rfl, w3, rfl, hrt.part (show (32 : Nat) < 256 by decide) (by rw [hsp]; simp), fun c zs H7 s7 hc7 hd7 => ?_⟩
                  have hw7 : SqL K H7 q _ := s7.seq hw6
                  have s7' := s6'.trans s7
                  have ha7 := s7 _ _ (s6 _ _ ha4)
                  have hb7 := s7 _ _ (s6 _ _ hb4)
                  have hdl7 := dpAll_same s7 (dpAll_same s6 hd4)
                  have hr7 : SqL K H7 p _ := s7.seq (s6.seq hr4)
                  clear hw6 hw ha4 hb4 hd4 hr4 s4 s6'
                  -- span == []
                  refine ⟨_, rfl, by decide, fun e he => ?_⟩
                  have s8 : Same H7 (upd H7 e (.lst [])) := Same.upd he
                  refine ⟨.list (spansD (spanP w3)), .list [], .lst (.of (s8 _ _ hc7)) (dpAll_same s8 hd7), .lst (.of upd_same) .nil, by unfold noB; exact noB_spans _, rfl, ?_, _, rfl, ?_⟩
                  · simp only [PyData.depth]
                    have := depth_spans (spanP w3)
                    omega
                  rw [eqNil (noB_spans _), spansNil]
                  have hw8 : SqL K (upd H7 e (.lst [])) q _ := s8.seq hw7
                  have s8' := s7'.trans s8
                  have ha8 := s8 _ _ ha7
                  have hb8 := s8 _ _ hb7
                  have hc8 := s8 _ _ hc7
                  have hdl8 := dpAll_same s8 hdl7
                  have hd8 := dpAll_same s8 hd7
                  have hr8 : SqL K (upd H7 e (.lst [])) p _ := s8.seq hr7
                  generalize upd H7 e (.lst []) = H8 at *
                  clear s8 s7 hw7 ha7 hb7 hdl7 hr7 s7' hc7 hd7 he
                  cases h3 : spanP w3 with
                  | none => exact iteT (iteT ⟨by decide, stop (.inl (row_bad htag hsp fun _ _ _ ⟨s, z⟩ => by rw [h3] at z; cases z)) _ s8'⟩)
                  | some sp3 =>
                    rw [h3] at hd8
                    refine iteF ?_
                    refine ⟨_, rfl, a, _, rfl, .inl (.of ha8), rfl, _, rfl, ?_⟩
                    rw [intEq]
                    have ely : ys.length = i := by rw [dpAll_len hdl8, List.length_map, hl3]
                    by_cases h10 : i = 10
                    · rw [decide_eq_true (show ((ys.length : Nat) : Int) = 10 by omega)]
                      exact iteT (iteT ⟨by decide, stop (.inr (by omega)) _ s8'⟩)
                    · rw [decide_eq_false (show ¬ ((ys.length : Nat) : Int) = 10 by omega)]
                      refine iteF ?_
                      refine ⟨_, rfl, by decide, fun e2 he2 => ?_⟩
                      have s9 : Same H8 (upd H8 e2 (.lst [])) := Same.upd he2
                      refine ⟨.list (ls.map lineD), .list [], .lst (.of (s9 _ _ ha8)) (dpAll_same s9 hdl8), .lst (.of upd_same) .nil, by unfold noB; exact noBs_lines _, rfl, ?_, _, rfl, ?_⟩
                      · simp only [PyData.depth]
                        have := depthAll_lines ls
                        omega
                      rw [eqNil (noBs_lines _)]
                      have hw9 : SqL K (upd H8 e2 (.lst [])) q _ := s9.seq hw8
                      have s9' := s8'.trans s9
                      have ha9 := s9 _ _ ha8
                      have hb9 := s9 _ _ hb8
                      have hc9 := s9 _ _ hc8
                      have hdl9 := dpAll_same s9 hdl8
                      have hd9 := dpAll_same s9 hd8
                      have hr9 : SqL K (upd H8 e2 (.lst [])) p _ := s9.seq hr8
                      generalize upd H8 e2 (.lst []) = H9 at *
                      by_cases hls : ls = []
                      · rw [decide_eq_true (show ls.map lineD = [] by rw [hls]; rfl)]
                        have hnil : (ls.map (·.1)) = [] := by rw [hls]; rfl
                        refine iteT ⟨_, rfl, q, _, 2, V.str w2, rfl, rfl, hw9, rfl, rfl, _, rfl, ?_⟩
                        rw [strEq, str_dash]
                        by_cases h5 : w2 = dash
                        · rw [decide_eq_true h5]
                          refine iteF ?_
                          have hpa : paOk (ls.map (·.1)) w2 = true := by
                            unfold paOk
                            rw [if_pos hnil]
                            exact decide_eq_true h5
                          have epa : (if ls.map (·.1) = [] then Str.empty else w2) = Str.ofString "" := by rw [if_pos hnil, str_empty]
                          obtain ⟨eg1, eg2⟩ := row_good htag hsp h0 h1 h2 h3 hpa
                          rw [epa] at eg1 eg2
                          refine ⟨_, rfl, .inl ⟨rfl, _, .of ha9⟩, _, rfl, q, _, 1, V.str w1, rfl, rfl, hw9, rfl, ?_⟩
                          refine ⟨_, rfl, by decide, fun e3 he3 => ?_⟩
                          have s10 : Same H9 (upd H9 e3 (.lst [])) := Same.upd he3
                          refine ⟨.list (ls.map lineD), .list [], .lst (.of (s10 _ _ ha9)) (dpAll_same s10 hdl9), .lst (.of upd_same) .nil, by unfold noB; exact noBs_lines _, rfl, ?_, _, rfl, ?_⟩
                          · simp only [PyData.depth]
                            have := depthAll_lines ls
                            omega
                          rw [eqNil (noBs_lines _)]
                          rw [decide_eq_true (show ls.map lineD = [] by rw [hls]; rfl)]
                          have hw10 : SqL K (upd H9 e3 (.lst [])) q _ := s10.seq hw9
                          have s10' := s9'.trans s10
                          have ha10 := s10 _ _ ha9
                          have hb10 := s10 _ _ hb9
                          have hc10 := s10 _ _ hc9
                          have hdl10 := dpAll_same s10 hdl9
                          have hd10 := dpAll_same s10 hd9
                          have hr10 : SqL K (upd H9 e3 (.lst [])) p _ := s10.seq hr9
                          generalize upd H9 e3 (.lst []) = H10 at *
                          obtain ⟨sv, hzs, hsv⟩ : ∃ sv, zs = [sv] ∧ Dp K H10 sv (spanD sp3) := by
                            cases hd10 with
                            | cons u r => cases r with
                              | nil => exact ⟨_, rfl, u⟩
                          subst hzs
                          refine iteT ?_
                          refine ⟨_, rfl, c, _, 0, sv, rfl, rfl, .of hc10, rfl, by show 3 ≤ sizeLine; exact big4000 (by decide), fun t0 ht0 => ?_⟩
                          have s11 : Same H10 (upd H10 t0 (.tup [.str w1, .str (Str.ofString ""), sv])) := Same.upd ht0
                          have hT11 : Dp K (upd H10 t0 (.tup [.str w1, .str (Str.ofString ""), sv])) (.ref t0) (lineD (w1, (Str.ofString ""), sp3)) := dp_line_of (.of upd_same) (dp_same s11 hsv)
                          have hw11 : SqL K (upd H10 t0 (.tup [.str w1, .str (Str.ofString ""), sv])) q _ := s11.seq hw10
                          have s11' := s10'.trans s11
                          have ha11 := s11 _ _ ha10
                          have hb11 := s11 _ _ hb10
                          have hdl11 := dpAll_same s11 hdl10
                          have hr11 : SqL K (upd H10 t0 (.tup [.str w1, .str (Str.ofString ""), sv])) p _ := s11.seq hr10
                          generalize upd H10 t0 (.tup [.str w1, .str (Str.ofString ""), sv]) = H11 at *
                          have slb : 4000 < sizeLine := by rw [sizeLine_eq]; omega
                          refine ⟨a, _, _, rfl, rfl, ha11, by omega, ?_⟩
                          have hb12 : (upd H11 a (.lst (ys ++ [V.ref t0]))) b = some (.lst ((ls.map (·.1)).map V.str)) := by
                            rw [upd_ne (Ne.symm nab)]
                            exact hb11
                          have hw12 : SqL K (upd H11 a (.lst (ys ++ [V.ref t0]))) q _ := sqL_upd hw11 (Ne.symm naq)
                          have kt12 : TK H11 (upd H11 a (.lst (ys ++ [V.ref t0]))) := ((But.upd (j := a)).kt ha11).tk
                          refine ⟨_, rfl, .inl ⟨rfl, _, .of hb12⟩, _, rfl, q, _, 1, V.str w1, rfl, rfl, hw12, rfl, b, _, _, rfl, rfl, hb12, by rw [List.length_map, lns]; omega, ?_⟩
                          have kt13 : TK (upd H11 a (.lst (ys ++ [V.ref t0]))) (upd (upd H11 a (.lst (ys ++ [V.ref t0]))) b (.lst ((ls.map (·.1)).map V.str ++ [V.str w1]))) := ((But.upd (j := b)).kt hb12).tk
                          refine ⟨ls ++ [(w1, (Str.ofString ""), sp3)], ys ++ [V.ref t0], _, _, _, rfl, fun z o hz => ?_, ?_, ?_, ?_, ?_, ?_, by omega, ?_, ?_, ?_⟩
                          · rw [upd_ne (ne_of_none hz hbH), upd_ne (ne_of_none hz haH)]
                            exact s11' _ _ hz
                          · exact sqL_upd (sqL_upd hr11 (Ne.symm nap)) (Ne.symm nbp)
                          · rw [upd_ne nab, upd_same]
                          · rw [List.map_append]
                            refine dpAll_tk kt13 _ _ ?_ (dpAll_tk kt12 _ _ ?_ (dpAll_snoc hdl11 hT11))
                            · have := flatDs_lines (ls ++ [(w1, (Str.ofString ""), sp3)])
                              rw [List.map_append] at this
                              exact this
                            · have := flatDs_lines (ls ++ [(w1, (Str.ofString ""), sp3)])
                              rw [List.map_append] at this
                              exact this
                          · rw [upd_same, List.map_append, List.map_append]
                            rfl
                          · rw [List.length_append, hl3]
                            rfl
                          · rw [htake, htk, eg1, List.map_append]
                            rfl
                          · rw [hok, hdrop, eg1, okFrom_good (by omega) eg2, List.map_append]
                            rfl
                          · intro n hn
                            rw [List.map_append] at hn
                            rcases List.mem_append.mp hn with z | z
                            · exact htag n z
                            · have z : n = w1 := by simpa using z
                              rw [z]
                              exact h1
                        · rw [decide_eq_false h5]
                          exact iteT ⟨by decide, stop (.inl (row_bad htag hsp fun _ _ _ _ z => by
                            unfold paOk at z
                            rw [if_pos hnil] at z
                            exact h5 (of_decide_eq_true z))) _ s9'⟩
                      · rw [decide_eq_false (show ¬ ls.map lineD = [] from fun z => hls (List.map_eq_nil_iff.mp z))]
                        have hnil : ¬ (ls.map (·.1)) = [] := fun z => hls (List.map_eq_nil_iff.mp z)
                        refine iteF ⟨_, rfl, q, _, 2, V.str w2, rfl, rfl, hw9, rfl, _, rfl, b, _, rfl, .inl (.of hb9), rfl, strs_flat _, _, rfl, ?_⟩
                        show if (!inV (V.str w2) ((ls.map (·.1)).map V.str)) = true then _ else _
                        rw [inStr]
                        by_cases h5 : w2 ∈ ls.map (·.1)
                        · rw [decide_eq_true h5]
                          refine iteF ?_
                          have hpa : paOk (ls.map (·.1)) w2 = true := by
                            unfold paOk
                            rw [if_neg hnil]
                            exact decide_eq_true h5
                          have epa : (if ls.map (·.1) = [] then Str.empty else w2) = w2 := by rw [if_neg hnil]
                          obtain ⟨eg1, eg2⟩ := row_good htag hsp h0 h1 h2 h3 hpa
                          rw [epa] at eg1 eg2
                          refine ⟨_, rfl, .inl ⟨rfl, _, .of ha9⟩, _, rfl, q, _, 1, V.str w1, rfl, rfl, hw9, rfl, ?_⟩
                          refine ⟨_, rfl, by decide, fun e3 he3 => ?_⟩
                          have s10 : Same H9 (upd H9 e3 (.lst [])) := Same.upd he3
                          refine ⟨.list (ls.map lineD), .list [], .lst (.of (s10 _ _ ha9)) (dpAll_same s10 hdl9), .lst (.of upd_same) .nil, by unfold noB; exact noBs_lines _, rfl, ?_, _, rfl, ?_⟩
                          · simp only [PyData.depth]
                            have := depthAll_lines ls
                            omega
                          rw [eqNil (noBs_lines _)]
                          rw [decide_eq_false (show ¬ ls.map lineD = [] from fun z => hls (List.map_eq_nil_iff.mp z))]
                          have hw10 : SqL K (upd H9 e3 (.lst [])) q _ := s10.seq hw9
                          have s10' := s9'.trans s10
                          have ha10 := s10 _ _ ha9
                          have hb10 := s10 _ _ hb9
                          have hc10 := s10 _ _ hc9
                          have hdl10 := dpAll_same s10 hdl9
                          have hd10 := dpAll_same s10 hd9
                          have hr10 : SqL K (upd H9 e3 (.lst [])) p _ := s10.seq hr9
                          generalize upd H9 e3 (.lst []) = H10 at *
                          obtain ⟨sv, hzs, hsv⟩ : ∃ sv, zs = [sv] ∧ Dp K H10 sv (spanD sp3) := by
                            cases hd10 with
                            | cons u r => cases r with
                              | nil => exact ⟨_, rfl, u⟩
                          subst hzs
                          refine iteF ⟨_, rfl, q, _, 2, V.str w2, rfl, rfl, hw10, rfl, ?_⟩
                          refine ⟨_, rfl, c, _, 0, sv, rfl, rfl, .of hc10, rfl, by show 3 ≤ sizeLine; exact big4000 (by decide), fun t0 ht0 => ?_⟩
                          have s11 : Same H10 (upd H10 t0 (.tup [.str w1, .str w2, sv])) := Same.upd ht0
                          have hT11 : Dp K (upd H10 t0 (.tup [.str w1, .str w2, sv])) (.ref t0) (lineD (w1, w2, sp3)) := dp_line_of (.of upd_same) (dp_same s11 hsv)
                          have hw11 : SqL K (upd H10 t0 (.tup [.str w1, .str w2, sv])) q _ := s11.seq hw10
                          have s11' := s10'.trans s11
                          have ha11 := s11 _ _ ha10
                          have hb11 := s11 _ _ hb10
                          have hdl11 := dpAll_same s11 hdl10
                          have hr11 : SqL K (upd H10 t0 (.tup [.str w1, .str w2, sv])) p _ := s11.seq hr10
                          generalize upd H10 t0 (.tup [.str w1, .str w2, sv]) = H11 at *
                          have slb : 4000 < sizeLine := by rw [sizeLine_eq]; omega
                          refine ⟨a, _, _, rfl, rfl, ha11, by omega, ?_⟩
                          have hb12 : (upd H11 a (.lst (ys ++ [V.ref t0]))) b = some (.lst ((ls.map (·.1)).map V.str)) := by
                            rw [upd_ne (Ne.symm nab)]
                            exact hb11
                          have hw12 : SqL K (upd H11 a (.lst (ys ++ [V.ref t0]))) q _ := sqL_upd hw11 (Ne.symm naq)
                          have kt12 : TK H11 (upd H11 a (.lst (ys ++ [V.ref t0]))) := ((But.upd (j := a)).kt ha11).tk
                          refine ⟨_, rfl, .inl ⟨rfl, _, .of hb12⟩, _, rfl, q, _, 1, V.str w1, rfl, rfl, hw12, rfl, b, _, _, rfl, rfl, hb12, by rw [List.length_map, lns]; omega, ?_⟩
                          have kt13 : TK (upd H11 a (.lst (ys ++ [V.ref t0]))) (upd (upd H11 a (.lst (ys ++ [V.ref t0]))) b (.lst ((ls.map (·.1)).map V.str ++ [V.str w1]))) := ((But.upd (j := b)).kt hb12).tk
                          refine ⟨ls ++ [(w1, w2, sp3)], ys ++ [V.ref t0], _, _, _, rfl, fun z o hz => ?_, ?_, ?_, ?_, ?_, ?_, by omega, ?_, ?_, ?_⟩
                          · rw [upd_ne (ne_of_none hz hbH), upd_ne (ne_of_none hz haH)]
                            exact s11' _ _ hz
                          · exact sqL_upd (sqL_upd hr11 (Ne.symm nap)) (Ne.symm nbp)
                          · rw [upd_ne nab, upd_same]
                          · rw [List.map_append]
                            refine dpAll_tk kt13 _ _ ?_ (dpAll_tk kt12 _ _ ?_ (dpAll_snoc hdl11 hT11))
                            · have := flatDs_lines (ls ++ [(w1, w2, sp3)])
                              rw [List.map_append] at this
                              exact this
                            · have := flatDs_lines (ls ++ [(w1, w2, sp3)])
                              rw [List.map_append] at this
                              exact this
                          · rw [upd_same, List.map_append, List.map_append]
                            rfl
                          · rw [List.length_append, hl3]
                            rfl
                          · rw [htake, htk, eg1, List.map_append]
                            rfl
                          · rw [hok, hdrop, eg1, okFrom_good (by omega) eg2, List.map_append]
                            rfl
                          · intro n hn
                            rw [List.map_append] at hn
                            rcases List.mem_append.mp hn with z | z
                            · exact htag n z
                            · have z : n = w1 := by simpa using z
                              rw [z]
                              exact h1
                        · rw [decide_eq_false h5]
                          exact iteT ⟨by decide, stop (.inl (row_bad htag hsp fun _ _ _ _ z => by
                            unfold paOk at z
                            rw [if_neg hnil] at z
                            exact h5 (of_decide_eq_true z))) _ s9'⟩
            · rw [decide_eq_false (show ¬ w0 = Str.ofString "area" from h0)]
              exact iteT (iteT ⟨by decide, stop (.inl (row_bad htag hsp fun z => absurd z h0)) _ s4⟩)
        · rw [decide_eq_false (show ¬ ((Txt.split row spc).length : Int) = 4 by omega)]
          exact iteT (iteT ⟨by decide, stop (.inl (by rw [rowP_none h4]; rfl)) _ s4⟩)
      · rintro σ H3 ⟨ls, ys, u, v, z, rfl, s3, hr3, ha3, hd3, hb3, hl3, hi10, htk, hok, htag⟩
        have e : okFrom [] (rows.map rowP) = true := by
          rw [hok, List.length_map, List.drop_length]
          rfl
        have ea : okAll (rows.map rowP) = true := by
          unfold okAll
          rw [e]
          cases rows with
          | nil => exact absurd rfl hne
          | cons _ _ => rfl
        rw [List.length_map, List.take_length] at htk
        refine ⟨_, rfl, k a ys H3 s3 ha3 ?_⟩
        rw [fin1 ea, htk, allSome_some]
        exact hd3
    · refine ⟨_, rfl, _, _, _, _, false, rfl, .ty "str", tyx_same hty s01, hk, _, rfl, iteF ?_⟩
      refine ⟨by show 1 ≤ sizeLine; exact big4000 (by decide), fun p hp => ⟨p, rfl, ⟨_, .of upd_same⟩, ?_⟩⟩
      obtain ⟨rows, er⟩ : ∃ rows : List Str, rows = [Str.ofString ""] := ⟨_, rfl⟩
      have hlen : ∀ r ∈ rows, TxtOk r := fun r hr => by
        rw [er] at hr
        rw [List.mem_singleton.mp hr]
        exact ⟨by decide, nld_len (by decide)⟩
      have hcount : rows.length ≤ 4000 := by
        rw [er]
        decide
      have hne : rows ≠ [] := by
        rw [er]
        simp
      have bad : okAll (rows.map rowP) = false := by
        rw [er]
        decide +kernel
      have fin1 : okAll (rows.map rowP) = true → (((none : Option (List Line))).getD []) = allSome (rows.map rowP) := fun e => by
        rw [bad] at e
        cases e
      have fin0 : okAll (rows.map rowP) = false → (((none : Option (List Line))).getD []) = [] := fun e => rfl
      generalize ((none : Option (List Line))).getD [] = res at *
      have em : ([V.str (Str.ofString "")] : List V) = rows.map V.str := by
        rw [er]
        rfl
      have nap : a ≠ p := ne_of_none ha1 hp
      have nbp : b ≠ p := ne_of_none hb1 hp
      rw [em]
      have sp : Same H1 (upd H1 p (.lst (rows.map V.str))) := Same.upd hp
      have hrows : SqL K (upd H1 p (.lst (rows.map V.str))) p (rows.map V.str) := .of upd_same
      generalize upd H1 p (.lst (rows.map V.str)) = H2 at *
      refine for_it (walk_list (K := K) (a := p) (xs := rows.map V.str)) (fun i σ H3 => ∃ (ls : List Line) (ys : List V) (u v z : Option V), σ = [some x, some (.ref a), some (.ref b), u, v, z] ∧ Same H H3 ∧ SqL K H3 p (rows.map V.str) ∧ H3 a = some (.lst ys) ∧ DpAll K H3 ys (ls.map lineD) ∧
          H3 b = some (.lst ((ls.map (·.1)).map V.str)) ∧ ls.length = i ∧ i ≤ 10 ∧ (rows.take i).map rowP = ls.map some ∧ okFrom [] (rows.map rowP) = okFrom (ls.map (·.1)) ((rows.drop i).map rowP) ∧ ∀ n ∈ ls.map (·.1), isTag n = true)
        ⟨[], [], none, none, none, rfl, s01.trans sp, hrows, sp _ _ ha1, .nil, sp _ _ hb1, rfl, Nat.zero_le _, rfl, rfl, fun n hn => by simp at hn⟩ (fun i σ H2 _ ⟨_, _, _, _, _, _, _, s, _⟩ => s) ?_ ?_
      · rintro i xv σ H3 H4 hi ⟨ls, ys, u, v, z, rfl, s3, hr3, ha3, hd3, hb3, hl3, hi10, htk, hok, htag⟩ ⟨rfl, hxv⟩
        rw [List.getElem?_map] at hxv
        obtain ⟨row, hrow, rfl⟩ := Option.map_eq_some_iff.mp hxv
        have hrt := hlen row (List.mem_of_getElem? hrow)
        have hrl := hrt.1
        have hdrop : (rows.drop i).map rowP = rowP row :: (rows.drop (i + 1)).map rowP := by
          have hlt := (List.getElem?_eq_some_iff.mp hrow)
          obtain ⟨h1, h2⟩ := hlt
          rw [List.drop_eq_getElem_cons h1, h2]
          rfl
        have htake : (rows.take (i + 1)).map rowP = (rows.take i).map rowP ++ [rowP row] := by
          rw [List.take_succ, hrow, List.map_append]
          rfl
        have lns : (ls.map (·.1)).length = i := by rw [List.length_map, hl3]
        have stop : (lineB (ls.map (·.1)) (rowP row) = false ∨ (ls.map (·.1)).length = 10) → ∀ H5, Same H H5 → ∀ q, H5 q = none → Q (.ref q) (upd H5 q (.lst [])) := fun hb H5 s5 q hq => by
          refine k q [] _ (s5.trans (Same.upd hq)) upd_same ?_
          have e : okAll (rows.map rowP) = false := by
            unfold okAll
            rw [hok, hdrop, okFrom_bad (hb.elim .inr .inl), Bool.and_false]
          rw [fin0 e]
          exact .nil
        -- words = row.split(' ')
        refine ⟨_, rfl, ⟨_, rfl⟩, row, _, rfl, rfl, rfl, by rw [sizeLine_eq]; omega, fun q hq => ?_⟩
        rw [str_spc]
        have naq : a ≠ q := ne_of_none ha3 hq
        have nbq : b ≠ q := ne_of_none hb3 hq
        have sq : Same H4 (upd H4 q (.lst ((Txt.split row spc).map V.str))) := Same.upd hq
        have hw : SqL K (upd H4 q (.lst ((Txt.split row spc).map V.str))) q ((Txt.split row spc).map V.str) := .of upd_same
        have hwl := split_len row (show (32 : Nat) < 256 by decide)
        have s4 := s3.trans sq
        have ha4 := sq _ _ ha3
        have hb4 := sq _ _ hb3
        have hd4 := dpAll_same sq hd3
        have hr4 : SqL K (upd H4 q (.lst ((Txt.split row spc).map V.str))) p (rows.map V.str) := sq.seq hr3
        generalize upd H4 q (.lst ((Txt.split row spc).map V.str)) = H5 at *
        clear sq hq ha3 hb3 hd3 hr3 s3
        refine ⟨_, rfl, q, _, rfl, .inl hw, rfl, _, rfl, ?_⟩
        rw [intEq, List.length_map]
        by_cases h4 : (Txt.split row spc).length = 4
        · have e4 : ((Txt.split row spc).length : Int) = 4 := by omega
          rw [decide_eq_true e4]
          refine iteF ?_
          match hsp : Txt.split row spc, h4 with
          | [w0, w1, w2, w3], _ =>
            rw [hsp] at hw hwl
            have hw : SqL K H5 q [.str w0, .str w1, .str w2, .str w3] := hw
            refine ⟨_, rfl, q, _, 0, V.str w0, rfl, rfl, hw, rfl, rfl, _, rfl, ?_⟩
            rw [strEq]
            by_cases h0 : w0 = areaS
            · rw [decide_eq_true (show w0 = Str.ofString "area" from h0)]
              refine iteF ?_
              have l1 := hwl w1 (by simp)
              refine ⟨_, rfl, q, _, 1, V.str w1, rfl, rfl, hw, rfl, w1, rfl, by omega, fun H6 s6 => ⟨_, rfl, ?_⟩⟩
              have hw6 : SqL K H6 q _ := s6.seq hw
              have s6' := s4.trans s6
              cases h1 : isTag w1 with
              | false =>
                refine iteT (iteT ⟨by decide, stop (.inl (row_bad htag hsp fun _ z => by rw [h1] at z; cases z)) _ s6'⟩)
              | true =>
                refine iteF ?_
                refine ⟨_, rfl, q, _, 1, V.str w1, rfl, rfl, hw6, rfl, _, rfl, b, _, rfl, .inl (.of (s6 _ _ hb4)), rfl, strs_flat _, _, rfl, ?_⟩
                show if inV (V.str w1) ((ls.map (·.1)).map V.str) = true then _ else _
                rw [inStr]
                by_cases h2 : w1 ∈ ls.map (·.1)
                · rw [decide_eq_true h2]
                  exact iteT ⟨by decide, stop (.inl (row_bad htag hsp fun _ _ z => absurd h2 z)) _ s6'⟩
                · rw [decide_eq_false h2]
                  refine iteF ?_
                  have l3 := hwl w3 (by simp)
                  refine ⟨_, rfl, q, _, 3, V.str w3, rfl, rfl, hw6, rfl, w3, rfl, hrt.part (show (32 : Nat) < 256 by decide) (by rw [hsp]; simp), fun c zs H7 s7 hc7 hd7 => ?_⟩
                  have hw7 : SqL K H7 q _ := s7.seq hw6
                  have s7' := s6'.trans s7
                  have ha7 := s7 _ _ (s6 _ _ ha4)
                  have hb7 := s7 _ _ (s6 _ _ hb4)
                  have hdl7 := dpAll_same s7 (dpAll_same s6 hd4)
                  have hr7 : SqL K H7 p _ := s7.seq (s6.seq hr4)
                  clear hw6 hw ha4 hb4 hd4 hr4 s4 s6'
                  -- span == []
                  refine ⟨_, rfl, by decide, fun e he => ?_⟩
                  have s8 : Same H7 (upd H7 e (.lst [])) := Same.upd he
                  refine ⟨.list (spansD (spanP w3)), .list [], .lst (.of (s8 _ _ hc7)) (dpAll_same s8 hd7), .lst (.of upd_same) .nil, by unfold noB; exact noB_spans _, rfl, ?_, _, rfl, ?_⟩
                  · simp only [PyData.depth]
                    have := depth_spans (spanP w3)
                    omega
                  rw [eqNil (noB_spans _), spansNil]
                  have hw8 : SqL K (upd H7 e (.lst [])) q _ := s8.seq hw7
                  have s8' := s7'.trans s8
                  have ha8 := s8 _ _ ha7
                  have hb8 := s8 _ _ hb7
                  have hc8 := s8 _ _ hc7
                  have hdl8 := dpAll_same s8 hdl7
                  have hd8 := dpAll_same s8 hd7
                  have hr8 : SqL K (upd H7 e (.lst [])) p _ := s8.seq hr7
                  generalize upd H7 e (.lst []) = H8 at *
                  clear s8 s7 hw7 ha7 hb7 hdl7 hr7 s7' hc7 hd7 he
                  cases h3 : spanP w3 with
                  | none => exact iteT (iteT ⟨by decide, stop (.inl (row_bad htag hsp fun _ _ _ ⟨s, z⟩ => by rw [h3] at z; cases z)) _ s8'⟩)
                  | some sp3 =>
                    rw [h3] at hd8
                    refine iteF ?_
                    refine ⟨_, rfl, a, _, rfl, .inl (.of ha8), rfl, _, rfl, ?_⟩
                    rw [intEq]
                    have ely : ys.length = i := by rw [dpAll_len hdl8, List.length_map, hl3]
                    by_cases h10 : i = 10
                    · rw [decide_eq_true (show ((ys.length : Nat) : Int) = 10 by omega)]
                      exact iteT (iteT ⟨by decide, stop (.inr (by omega)) _ s8'⟩)
                    · rw [decide_eq_false (show ¬ ((ys.length : Nat) : Int) = 10 by omega)]
                      refine iteF ?_
                      refine ⟨_, rfl, by decide, fun e2 he2 => ?_⟩
                      have s9 : Same H8 (upd H8 e2 (.lst [])) := Same.upd he2
                      refine ⟨.list (ls.map lineD), .list [], .lst (.of (s9 _ _ ha8)) (dpAll_same s9 hdl8), .lst (.of upd_same) .nil, by unfold noB; exact noBs_lines _, rfl, ?_, _, rfl, ?_⟩
                      · simp only [PyData.depth]
                        have := depthAll_lines ls
                        omega
                      rw [eqNil (noBs_lines _)]
                      have hw9 : SqL K (upd H8 e2 (.lst [])) q _ := s9.seq hw8
                      have s9' := s8'.trans s9
                      have ha9 := s9 _ _ ha8
                      have hb9 := s9 _ _ hb8
                      have hc9 := s9 _ _ hc8
                      have hdl9 := dpAll_same s9 hdl8
                      have hd9 := dpAll_same s9 hd8
                      have hr9 : SqL K (upd H8 e2 (.lst [])) p _ := s9.seq hr8
                      generalize upd H8 e2 (.lst []) = H9 at *
                      by_cases hls : ls = []
                      · rw [decide_eq_true (show ls.map lineD = [] by rw [hls]; rfl)]
                        have hnil : (ls.map (·.1)) = [] := by rw [hls]; rfl
                        refine iteT ⟨_, rfl, q, _, 2, V.str w2, rfl, rfl, hw9, rfl, rfl, _, rfl, ?_⟩
                        rw [strEq, str_dash]
                        by_cases h5 : w2 = dash
                        · rw [decide_eq_true h5]
                          refine iteF ?_
                          have hpa : paOk (ls.map (·.1)) w2 = true := by
                            unfold paOk
                            rw [if_pos hnil]
                            exact decide_eq_true h5
                          have epa : (if ls.map (·.1) = [] then Str.empty else w2) = Str.ofString "" := by rw [if_pos hnil, str_empty]
                          obtain ⟨eg1, eg2⟩ := row_good htag hsp h0 h1 h2 h3 hpa
                          rw [epa] at eg1 eg2
                          refine ⟨_, rfl, .inl ⟨rfl, _, .of ha9⟩, _, rfl, q, _, 1, V.str w1, rfl, rfl, hw9, rfl, ?_⟩
                          refine ⟨_, rfl, by decide, fun e3 he3 => ?_⟩
                          have s10 : Same H9 (upd H9 e3 (.lst [])) := Same.upd he3
                          refine ⟨.list (ls.map lineD), .list [], .lst (.of (s10 _ _ ha9)) (dpAll_same s10 hdl9), .lst (.of upd_same) .nil, by unfold noB; exact noBs_lines _, rfl, ?_, _, rfl, ?_⟩
                          · simp only [PyData.depth]
                            have := depthAll_lines ls
                            omega
                          rw [eqNil (noBs_lines _)]
                          rw [decide_eq_true (show ls.map lineD = [] by rw [hls]; rfl)]
                          have hw10 : SqL K (upd H9 e3 (.lst [])) q _ := s10.seq hw9
                          have s10' := s9'.trans s10
                          have ha10 := s10 _ _ ha9
                          have hb10 := s10 _ _ hb9
                          have hc10 := s10 _ _ hc9
                          have hdl10 := dpAll_same s10 hdl9
                          have hd10 := dpAll_same s10 hd9
                          have hr10 : SqL K (upd H9 e3 (.lst [])) p _ := s10.seq hr9
                          generalize upd H9 e3 (.lst []) = H10 at *
                          obtain ⟨sv, hzs, hsv⟩ : ∃ sv, zs = [sv] ∧ Dp K H10 sv (spanD sp3) := by
                            cases hd10 with
                            | cons u r => cases r with
                              | nil => exact ⟨_, rfl, u⟩
                          subst hzs
                          refine iteT ?_
                          refine ⟨_, rfl, c, _, 0, sv, rfl, rfl, .of hc10, rfl, by show 3 ≤ sizeLine; exact big4000 (by decide), fun t0 ht0 => ?_⟩
                          have s11 : Same H10 (upd H10 t0 (.tup [.str w1, .str (Str.ofString ""), sv])) := Same.upd ht0
                          have hT11 : Dp K (upd H10 t0 (.tup [.str w1, .str (Str.ofString ""), sv])) (.ref t0) (lineD (w1, (Str.ofString ""), sp3)) := dp_line_of (.of upd_same) (dp_same s11 hsv)
                          have hw11 : SqL K (upd H10 t0 (.tup [.str w1, .str (Str.ofString ""), sv])) q _ := s11.seq hw10
                          have s11' := s10'.trans s11
                          have ha11 := s11 _ _ ha10
                          have hb11 := s11 _ _ hb10
                          have hdl11 := dpAll_same s11 hdl10
                          have hr11 : SqL K (upd H10 t0 (.tup [.str w1, .str (Str.ofString ""), sv])) p _ := s11.seq hr10
                          generalize upd H10 t0 (.tup [.str w1, .str (Str.ofString ""), sv]) = H11 at *
                          have slb : 4000 < sizeLine := by rw [sizeLine_eq]; omega
                          refine ⟨a, _, _, rfl, rfl, ha11, by omega, ?_⟩
                          have hb12 : (upd H11 a (.lst (ys ++ [V.ref t0]))) b = some (.lst ((ls.map (·.1)).map V.str)) := by
                            rw [upd_ne (Ne.symm nab)]
                            exact hb11
                          have hw12 : SqL K (upd H11 a (.lst (ys ++ [V.ref t0]))) q _ := sqL_upd hw11 (Ne.symm naq)
                          have kt12 : TK H11 (upd H11 a (.lst (ys ++ [V.ref t0]))) := ((But.upd (j := a)).kt ha11).tk
                          refine ⟨_, rfl, .inl ⟨rfl, _, .of hb12⟩, _, rfl, q, _, 1, V.str w1, rfl, rfl, hw12, rfl, b, _, _, rfl, rfl, hb12, by rw [List.length_map, lns]; omega, ?_⟩
                          have kt13 : TK (upd H11 a (.lst (ys ++ [V.ref t0]))) (upd (upd H11 a (.lst (ys ++ [V.ref t0]))) b (.lst ((ls.map (·.1)).map V.str ++ [V.str w1]))) := ((But.upd (j := b)).kt hb12).tk
                          refine ⟨ls ++ [(w1, (Str.ofString ""), sp3)], ys ++ [V.ref t0], _, _, _, rfl, fun z o hz => ?_, ?_, ?_, ?_, ?_, ?_, by omega, ?_, ?_, ?_⟩
                          · rw [upd_ne (ne_of_none hz hbH), upd_ne (ne_of_none hz haH)]
                            exact s11' _ _ hz
                          · exact sqL_upd (sqL_upd hr11 (Ne.symm nap)) (Ne.symm nbp)
                          · rw [upd_ne nab, upd_same]
                          · rw [List.map_append]
                            refine dpAll_tk kt13 _ _ ?_ (dpAll_tk kt12 _ _ ?_ (dpAll_snoc hdl11 hT11))
                            · have := flatDs_lines (ls ++ [(w1, (Str.ofString ""), sp3)])
                              rw [List.map_append] at this
                              exact this
                            · have := flatDs_lines (ls ++ [(w1, (Str.ofString ""), sp3)])
                              rw [List.map_append] at this
                              exact this
                          · rw [upd_same, List.map_append, List.map_append]
                            rfl
                          · rw [List.length_append, hl3]
                            rfl
                          · rw [htake, htk, eg1, List.map_append]
                            rfl
                          · rw [hok, hdrop, eg1, okFrom_good (by omega) eg2, List.map_append]
                            rfl
                          · intro n hn
                            rw [List.map_append] at hn
                            rcases List.mem_append.mp hn with z | z
                            · exact htag n z
                            · have z : n = w1 := by simpa using z
                              rw [z]
                              exact h1
                        · rw [decide_eq_false h5]
                          exact iteT ⟨by decide, stop (.inl (row_bad htag hsp fun _ _ _ _ z => by
                            unfold paOk at z
                            rw [if_pos hnil] at z
                            exact h5 (of_decide_eq_true z))) _ s9'⟩
                      · rw [decide_eq_false (show ¬ ls.map lineD = [] from fun z => hls (List.map_eq_nil_iff.mp z))]
                        have hnil : ¬ (ls.map (·.1)) = [] := fun z => hls (List.map_eq_nil_iff.mp z)
                        refine iteF ⟨_, rfl, q, _, 2, V.str w2, rfl, rfl, hw9, rfl, _, rfl, b, _, rfl, .inl (.of hb9), rfl, strs_flat _, _, rfl, ?_⟩
                        show if (!inV (V.str w2) ((ls.map (·.1)).map V.str)) = true then _ else _
                        rw [inStr]
                        by_cases h5 : w2 ∈ ls.map (·.1)
                        · rw [decide_eq_true h5]
                          refine iteF ?_
                          have hpa : paOk (ls.map (·.1)) w2 = true := by
                            unfold paOk
                            rw [if_neg hnil]
                            exact decide_eq_true h5
                          have epa : (if ls.map (·.1) = [] then Str.empty else w2) = w2 := by rw [if_neg hnil]
                          obtain ⟨eg1, eg2⟩ := row_good htag hsp h0 h1 h2 h3 hpa
                          rw [epa] at eg1 eg2
                          refine ⟨_, rfl, .inl ⟨rfl, _, .of ha9⟩, _, rfl, q, _, 1, V.str w1, rfl, rfl, hw9, rfl, ?_⟩
                          refine ⟨_, rfl, by decide, fun e3 he3 => ?_⟩
                          have s10 : Same H9 (upd H9 e3 (.lst [])) := Same.upd he3
                          refine ⟨.list (ls.map lineD), .list [], .lst (.of (s10 _ _ ha9)) (dpAll_same s10 hdl9), .lst (.of upd_same) .nil, by unfold noB; exact noBs_lines _, rfl, ?_, _, rfl, ?_⟩
                          · simp only [PyData.depth]
                            have := depthAll_lines ls
                            omega
                          rw [eqNil (noBs_lines _)]
                          rw [decide_eq_false (show ¬ ls.map lineD = [] from fun z => hls (List.map_eq_nil_iff.mp z))]
                          have hw10 : SqL K (upd H9 e3 (.lst [])) q _ := s10.seq hw9
                          have s10' := s9'.trans s10
                          have ha10 := s10 _ _ ha9
                          have hb10 := s10 _ _ hb9
                          have hc10 := s10 _ _ hc9
                          have hdl10 := dpAll_same s10 hdl9
                          have hd10 := dpAll_same s10 hd9
                          have hr10 : SqL K (upd H9 e3 (.lst [])) p _ := s10.seq hr9
                          generalize upd H9 e3 (.lst []) = H10 at *
                          obtain ⟨sv, hzs, hsv⟩ : ∃ sv, zs = [sv] ∧ Dp K H10 sv (spanD sp3) := by
                            cases hd10 with
                            | cons u r => cases r with
                              | nil => exact ⟨_, rfl, u⟩
                          subst hzs
                          refine iteF ⟨_, rfl, q, _, 2, V.str w2, rfl, rfl, hw10, rfl, ?_⟩
                          refine ⟨_, rfl, c, _, 0, sv, rfl, rfl, .of hc10, rfl, by show 3 ≤ sizeLine; exact big4000 (by decide), fun t0 ht0 => ?_⟩
                          have s11 : Same H10 (upd H10 t0 (.tup [.str w1, .str w2, sv])) := Same.upd ht0
                          have hT11 : Dp K (upd H10 t0 (.tup [.str w1, .str w2, sv])) (.ref t0) (lineD (w1, w2, sp3)) := dp_line_of (.of upd_same) (dp_same s11 hsv)
                          have hw11 : SqL K (upd H10 t0 (.tup [.str w1, .str w2, sv])) q _ := s11.seq hw10
                          have s11' := s10'.trans s11
                          have ha11 := s11 _ _ ha10
                          have hb11 := s11 _ _ hb10
                          have hdl11 := dpAll_same s11 hdl10
                          have hr11 : SqL K (upd H10 t0 (.tup [.str w1, .str w2, sv])) p _ := s11.seq hr10
                          generalize upd H10 t0 (.tup [.str w1, .str w2, sv]) = H11 at *
                          have slb : 4000 < sizeLine := by rw [sizeLine_eq]; omega
                          refine ⟨a, _, _, rfl, rfl, ha11, by omega, ?_⟩
                          have hb12 : (upd H11 a (.lst (ys ++ [V.ref t0]))) b = some (.lst ((ls.map (·.1)).map V.str)) := by
                            rw [upd_ne (Ne.symm nab)]
                            exact hb11
                          have hw12 : SqL K (upd H11 a (.lst (ys ++ [V.ref t0]))) q _ := sqL_upd hw11 (Ne.symm naq)
                          have kt12 : TK H11 (upd H11 a (.lst (ys ++ [V.ref t0]))) := ((But.upd (j := a)).kt ha11).tk
                          refine ⟨_, rfl, .inl ⟨rfl, _, .of hb12⟩, _, rfl, q, _, 1, V.str w1, rfl, rfl, hw12, rfl, b, _, _, rfl, rfl, hb12, by rw [List.length_map, lns]; omega, ?_⟩
                          have kt13 : TK (upd H11 a (.lst (ys ++ [V.ref t0]))) (upd (upd H11 a (.lst (ys ++ [V.ref t0]))) b (.lst ((ls.map (·.1)).map V.str ++ [V.str w1]))) := ((But.upd (j := b)).kt hb12).tk
                          refine ⟨ls ++ [(w1, w2, sp3)], ys ++ [V.ref t0], _, _, _, rfl, fun z o hz => ?_, ?_, ?_, ?_, ?_, ?_, by omega, ?_, ?_, ?_⟩
                          · rw [upd_ne (ne_of_none hz hbH), upd_ne (ne_of_none hz haH)]
                            exact s11' _ _ hz
                          · exact sqL_upd (sqL_upd hr11 (Ne.symm nap)) (Ne.symm nbp)
                          · rw [upd_ne nab, upd_same]
                          · rw [List.map_append]
                            refine dpAll_tk kt13 _ _ ?_ (dpAll_tk kt12 _ _ ?_ (dpAll_snoc hdl11 hT11))
                            · have := flatDs_lines (ls ++ [(w1, w2, sp3)])
                              rw [List.map_append] at this
                              exact this
                            · have := flatDs_lines (ls ++ [(w1, w2, sp3)])
                              rw [List.map_append] at this
                              exact this
                          · rw [upd_same, List.map_append, List.map_append]
                            rfl
                          · rw [List.length_append, hl3]
                            rfl
                          · rw [htake, htk, eg1, List.map_append]
                            rfl
                          · rw [hok, hdrop, eg1, okFrom_good (by omega) eg2, List.map_append]
                            rfl
                          · intro n hn
                            rw [List.map_append] at hn
                            rcases List.mem_append.mp hn with z | z
                            · exact htag n z
                            · have z : n = w1 := by simpa using z
                              rw [z]
                              exact h1
                        · rw [decide_eq_false h5]
                          exact iteT ⟨by decide, stop (.inl (row_bad htag hsp fun _ _ _ _ z => by
                            unfold paOk at z
                            rw [if_neg hnil] at z
                            exact h5 (of_decide_eq_true z))) _ s9'⟩
            · rw [decide_eq_false (show ¬ w0 = Str.ofString "area" from h0)]
              exact iteT (iteT ⟨by decide, stop (.inl (row_bad htag hsp fun z => absurd z h0)) _ s4⟩)
        · rw [decide_eq_false (show ¬ ((Txt.split row spc).length : Int) = 4 by omega)]
          exact iteT (iteT ⟨by decide, stop (.inl (by rw [rowP_none h4]; rfl)) _ s4⟩)
      · rintro σ H3 ⟨ls, ys, u, v, z, rfl, s3, hr3, ha3, hd3, hb3, hl3, hi10, htk, hok, htag⟩
        have e : okFrom [] (rows.map rowP) = true := by
          rw [hok, List.length_map, List.drop_length]
          rfl
        have ea : okAll (rows.map rowP) = true := by
          unfold okAll
          rw [e]
          cases rows with
          | nil => exact absurd rfl hne
          | cons _ _ => rfl
        rw [List.length_map, List.take_length] at htk
        refine ⟨_, rfl, k a ys H3 s3 ha3 ?_⟩
        rw [fin1 ea, htk, allSome_some]
        exact hd3
end
end K3

/-! The law's own defs, 5: jar, draw, pick. -/
namespace K3
open PySem PySem.Spec PyProof.Rows L2 TL
theorem bAbs : bootBuiltins "abs" = some (.builtin "abs") := by decide +kernel
theorem bDvm : bootBuiltins "divmod" = some (.builtin "divmod") := by decide +kernel
theorem bMin : bootBuiltins "min" = some (.builtin "min") := by decide +kernel
theorem bLst : bootBuiltins "list" = some (.type "list") := by decide +kernel
theorem bRep : bootBuiltins "repr" = some (.builtin "repr") := by decide +kernel
/-- the jar at j: a list of three ints -/
def JarAt (H : Hp) (j : Addr) : Prop := ∃ x y z : Int, H j = some (.lst [.int x, .int y, .int z])
theorem sqL_but {K : PySem.W.Frag} {j : Addr} {H H' : Hp} {p : Addr} {xs : List V} (b : But j H H') (h : SqL K H p xs) (n : p ≠ j) : SqL K H' p xs := by
  rcases h with (h | ⟨u, h⟩) | h
  · exact .inl (.inl (b _ _ h n))
  · exact .inl (.inr ⟨u, b _ _ h n⟩)
  · exact .inr h
theorem JarAt.ne {H : Hp} {j p : Addr} (h : JarAt H j) (n : H p = none) : p ≠ j := fun e => by
  obtain ⟨x, y, z, h⟩ := h
  rw [← e, n] at h
  cases h
theorem JarAt.same {H H' : Hp} {j : Addr} (h : JarAt H j) (s : Same H H') : JarAt H' j := by
  obtain ⟨x, y, z, h⟩ := h
  exact ⟨x, y, z, s _ _ h⟩
theorem But.free {j : Addr} {H H' : Hp} (b : But j H H') {p : Addr} (hj : JarAt H j) (h : H' p = none) (n : p ≠ j) : H p = none := by
  cases q : H p with
  | none => rfl
  | some o =>
    rw [b p o q n] at h
    cases h
section
variable {P : Program} {w : World} {K : PySem.W.Frag} {mg : Str → Option Value} {base : Heap}
/-! ### _law_jar -/
def spJar (K : PySem.W.Frag) : Sp := fun vs H Q _ => ∃ (a : Addr) (k : Nat) (ns : List Int), vs = [.ref a, .int (k : Nat)] ∧ SqL K H a (ns.map V.int) ∧ k < 4 ∧ ∀ j H', Same H H' → H j = none → JarAt H' j → Q (.ref j) H'
theorem sc32 : FnScope ["_law_script", "_law_k", "_law_seed", "_law_cell", "_law_digits"] ["_law_script", "_law_k"] (defScope (topS 32)) := ⟨rfl, rfl, rfl, by decide +kernel, rfl, by decide +kernel, by decide +kernel⟩
theorem ok_jar (G : Glb mg) (D : DnE K mg "_law_jar" 32 ["_law_script", "_law_k"]) : OkF P w K mg base 1 "_law_jar" 32 ["_law_script", "_law_k"] (spJar K) := by
  obtain ⟨f, fd, D⟩ := D
  refine ⟨f, fd, D, D.F.ok sc32 (fun vs H Q E h => ?_) (fun cdv A outer s H vs Q E hr h => ?_)⟩
  · obtain ⟨a, k, ns, rfl, _⟩ := h
    rfl
  · obtain ⟨a, kk, ns, rfl, ha, hk, k⟩ := h
    refine ⟨_, pss_cons (ps_set (i := 2) sc32.nd rfl (Or.inl rfl) (pe_op op_add (pe_op op_mul pe_int (pv 1)) pe_int))
      (pss_cons (ps_for PassesOwn.never rfl (pi_list (pe_slice sl_list (pv 0) po_none (po_some pe_int))) (pg_name (i := 3) sc32.nd rfl (Or.inl rfl))
        (pss_one (ps_set (i := 2) sc32.nd rfl (Or.inl rfl) (pe_op op_mod (pe_callTy call_int1 rfl G.int bInt (pa_cons (pe_op op_add (pe_op op_mul (pv 2) pe_int) (pe_callTy call_int1 rfl G.int bInt (pa_cons (pv 3) pa_nil))) pa_nil)) pe_int))))
      (pss_cons (ps_set (i := 3) sc32.nd rfl (Or.inl rfl) (pe_ifExp (pt_cmpR op_lt (pv 1) (pe_callB call_len_seq rfl G.len bLen (pa_cons (pv 0) pa_nil)) (nomark _)) (pe_callTy call_int1 rfl G.int bInt (pa_cons (pe_ix ix_list (pv 0) (pv 1) (fun _ _ => rfl)) pa_nil)) (pv 2)))
      (pss_cons (ps_set (i := 4) sc32.nd rfl (Or.inl rfl) (pe_ifExp (PW.pt (pw_or (pt_cmpR op_lt (pv 3) pe_int (nomark _)) (pw_or1 (pt_cmpR op_ge (pv 3) (pe_op op_pow pe_int pe_int) (nomark _))))) (pe_callB call_abs rfl G.abs bAbs (pa_cons (pv 3) pa_nil)) pe_int))
      (pss_one (ps_ret (pe_lst (pa_cons (pv 4) (pa_cons (pe_op op_mod (pe_callTy call_int1 rfl G.int bInt (pa_cons (pe_op op_add (pe_op op_add (pv 2) (pe_op op_mul (pv 3) pe_int)) pe_int) pa_nil)) pe_int) (pa_cons pe_int pa_nil))))))))), ?_⟩
    refine ⟨_, rfl, _, _, rfl, rfl, .inl ⟨by decide, by decide⟩, _, _, rfl, rfl, ?_⟩
    refine ⟨_, rfl, _, rfl, a, _, rfl, ha, fun p hp => ⟨p, rfl, ⟨_, .of upd_same⟩, ?_⟩⟩
    have s1 : Same H (upd H p (.lst (cutV (ns.map V.int) none (some 12)))) := Same.upd hp
    have ec : ∃ ms : List Int, cutV (ns.map V.int) none (some 12) = ms.map V.int := by
      refine ⟨(ns.drop (HT.sIx (ns.map V.int).length 0 none)).take (HT.sIx (ns.map V.int).length (ns.map V.int).length (some 12) - HT.sIx (ns.map V.int).length 0 none), ?_⟩
      unfold cutV
      rw [List.map_take, List.map_drop]
    obtain ⟨ms, ec⟩ := ec
    rw [ec] at s1 ⊢
    refine for_it (walk_list (K := K) (a := p) (xs := ms.map V.int)) (fun i σ H3 => ∃ (sd : Int) (u : Option V), σ = [some (.ref a), some (.int (kk : Nat)), some (.int sd), u, none] ∧ Same H H3 ∧ SqL K H3 p (ms.map V.int)) ⟨_, none, rfl, s1, .of upd_same⟩ (fun i σ H2 _ ⟨_, _, _, _, s⟩ => s) ?_ ?_
    · rintro i x σ H3 H4 hi ⟨sd, u, rfl, s3, hp3⟩ ⟨rfl, hx⟩
      rw [List.getElem?_map] at hx
      obtain ⟨c, hc, rfl⟩ := Option.map_eq_some_iff.mp hx
      exact ⟨_, rfl, _, _, rfl, rfl, .inr ⟨by decide, by decide⟩, _, rfl, .inl ⟨c, rfl, _, _, rfl, rfl, .inl ⟨_, rfl, _, _, rfl, rfl, by show (0 : Int) < 2147483587; decide, _, some (.int c), rfl, s3, hp3⟩⟩⟩
    · rintro σ H3 ⟨sd, u, rfl, s3, hp3⟩
      have last : ∀ c dg : Int, tLst (tCons (tVar 4) (tCons (tOp (rI (fun _ j => 0 < j) fun i j => .int (i % j)) (tCB (fun xs H Q => (∃ i, xs = [.int i] ∧ Q (.int i) H) ∨ ∃ k, xs = [.bl k] ∧ Q (.int (if k then 1 else 0)) H) (tCons (tOp (rI0 fun i j => .int (i + j)) (tOp (rI0 fun i j => .int (i + j)) (tVar 2) (tOp (rI CMul fun i j => .int (i * j)) (tVar 3) (tC (.int 39373)))) (tC (.int 17))) tNil)) (tC (.int 2147483629))) (tCons (tC (.int 0)) tNil)))
          [some (.ref a), some (.int (kk : Nat)), some (.int sd), some (.int c), some (.int dg)] H3 Q := fun c dg => by
        refine ⟨_, rfl, _, rfl, _, rfl, _, _, rfl, rfl, .inr ⟨by decide, by decide⟩, _, _, rfl, rfl, _, _, rfl, rfl, .inl ⟨_, rfl, _, _, rfl, rfl, by show (0 : Int) < 2147483629; decide, by show 3 ≤ sizeLine; exact big4000 (by decide), fun j hj => ?_⟩⟩
        exact k j _ (s3.trans (Same.upd hj)) (s3.free hj) ⟨_, _, _, upd_same⟩
      have digs : ∀ (c : Int) (R : VK), (∀ dg : Int, R (.int dg) H3) → tIf (tOr (tTest (tOp (rI0 fun i j => .bl (decide (i < j))) (tVar 3) (tC (.int 0)))) (tTest (tOp (rI0 fun i j => .bl (decide (j ≤ i))) (tVar 3) (tOp (rI CPow fun i j => .int (i ^ j.toNat)) (tC (.int 10)) (tC (.int 18))))))
          (tCB (fun xs H Q => ∃ i, xs = [.int i] ∧ Q (.int (if i < 0 then -i else i)) H) (tCons (tVar 3) tNil)) (tC (.int 0)) [some (.ref a), some (.int (kk : Nat)), some (.int sd), some (.int c), none] H3 R := fun c R hR => by
        refine ⟨_, rfl, _, _, rfl, rfl, _, rfl, ?_⟩
        refine ite2 (fun h1 => ?_) (fun h1 => ?_)
        · exact iteT ⟨_, rfl, c, rfl, hR _⟩
        · refine ⟨_, rfl, _, _, rfl, rfl, ⟨by decide, by decide, by decide⟩, _, _, rfl, rfl, _, rfl, ?_⟩
          exact ite2 (fun _ => ⟨_, rfl, c, rfl, hR _⟩) (fun _ => hR 0)
      refine ⟨_, rfl, _, rfl, a, _, rfl, .inl (s3.seq ha), _, _, rfl, rfl, _, rfl, ?_⟩
      refine ite2 (fun h1 => ?_) (fun h1 => ?_)
      · have hlt : kk < ns.length := by
          have := of_decide_eq_true h1
          rw [List.length_map] at this
          omega
        obtain ⟨c, hc⟩ : ∃ c, ns[kk]? = some c := ⟨_, List.getElem?_eq_getElem hlt⟩
        exact ⟨_, rfl, _, rfl, a, _, _, V.int c, rfl, rfl, s3.seq ha, atI_nat (by rw [List.getElem?_map, hc]; rfl), .inl ⟨c, rfl, digs c _ fun dg => last c dg⟩⟩
      · exact ⟨_, rfl, digs sd _ fun dg => last sd dg⟩
end
end K3

/-! The law's own defs, 6: draw, pick. -/
namespace K3
open PySem PySem.Spec PyProof.Rows L2 TL
section
variable {P : Program} {w : World} {K : PySem.W.Frag} {mg : Str → Option Value} {base : Heap}
def spDraw : Sp := fun vs H Q _ => ∃ (j : Addr) (n : Int), vs = [.ref j, .int n] ∧ JarAt H j ∧ 0 < n ∧ n < 1073741824 ∧ ∀ (r : Int) H', 0 ≤ r → r < n → But j H H' → JarAt H' j → Q (.int r) H'
theorem sc33 : FnScope ["_law_jar_here", "_law_size", "_law_seed", "_law_by", "_law_digit"] ["_law_jar_here", "_law_size"] (defScope (topS 33)) := ⟨rfl, rfl, rfl, by decide +kernel, rfl, by decide +kernel, by decide +kernel⟩
theorem ok_draw (G : Glb mg) (D : DnE K mg "_law_draw" 33 ["_law_jar_here", "_law_size"]) : OkF P w K mg base 1 "_law_draw" 33 ["_law_jar_here", "_law_size"] spDraw := by
  obtain ⟨f, fd, D⟩ := D
  refine ⟨f, fd, D, D.F.ok sc33 (fun vs H Q E h => ?_) (fun cdv A outer s H vs Q E hr h => ?_)⟩
  · obtain ⟨j, n, rfl, _⟩ := h
    rfl
  · obtain ⟨j, n, rfl, ⟨x, y, z, hj⟩, n0, n1, k⟩ := h
    refine ⟨_, pss_cons (ps_par (i := 2) (j := 3) (by rfl) sc33.nd rfl rfl (by decide) rfl rfl (pa_cons (pe_ix ix_list (pv 0) pe_int (fun _ _ => rfl)) (pa_cons (pe_op op_add (pe_op op_mod (pe_callTy call_int1 rfl G.int bInt (pa_cons (pe_ix ix_list (pv 0) pe_int (fun _ _ => rfl)) pa_nil)) pe_int) pe_int) pa_nil)) (by rfl))
      (pss_cons (ps_asg (pe_op op_add (pe_ix ix_list (pv 0) pe_int (fun _ _ => rfl)) pe_int) (pg_sub (pv 0) pe_int set_list))
      (pss_cons (ps_asg (pe_op op_mod (pe_callTy call_int1 rfl G.int bInt (pa_cons (pe_op op_add (pe_op op_add (pe_op op_mul (pv 2) (pv 3)) (pe_op op_mul pe_int (pe_ix ix_list (pv 0) pe_int (fun _ _ => rfl)))) pe_int) pa_nil)) pe_int) (pg_sub (pv 0) pe_int set_list))
      (pss_cons (ps_if (pt_cmpR op_gt (pe_ix ix_list (pv 0) pe_int (fun _ _ => rfl)) pe_int (nomark _))
        (pss_cons (ps_asg (pe_callB call_divmod rfl G.dvm bDvm (pa_cons (pe_ix ix_list (pv 0) pe_int (fun _ _ => rfl)) (pa_cons (pv 1) pa_nil))) (pg_tup rfl (pgs_cons (pg_sub (pv 0) pe_int set_list) (pgs_cons (pg_name (i := 4) sc33.nd rfl (Or.inl rfl)) pgs_nil))))
        (pss_one (ps_ret (pv 4)))) pss_nil)
      (pss_one (ps_ret (pe_op op_mod (pe_callTy call_int1 rfl G.int bInt (pa_cons (pe_op op_fdiv (pe_ix ix_list (pv 0) pe_int (fun _ _ => rfl)) pe_int) pa_nil)) (pv 1))))))), ?_⟩
    have hq : ∀ {u v t : Int}, SqL K (upd H j (.lst [.int u, .int v, .int t])) j [.int u, .int v, .int t] := fun {u v t} => .of upd_same
    refine ⟨_, rfl, j, _, 1, V.int y, rfl, rfl, .of hj, rfl, _, rfl, j, _, 1, V.int y, rfl, rfl, .of hj, rfl, .inl ⟨y, rfl, _, _, rfl, rfl, by show (0 : Int) < 40009; decide, _, _, rfl, rfl, _, _, rfl, ?_⟩⟩
    refine ⟨_, rfl, j, _, 2, V.int z, rfl, rfl, .of hj, rfl, _, _, rfl, rfl, _, rfl, j, _, 2, 2, rfl, rfl, hj, rfl, ?_⟩
    have u1 : ∀ t : Int, upd H j (.lst ([.int x, .int y, .int z].set 2 (.int t))) = upd H j (.lst [.int x, .int y, .int t]) := fun t => rfl
    rw [u1]
    have b1 : But j H (upd H j (.lst [.int x, .int y, .int (z + 1)])) := But.upd
    have h1 : (upd H j (.lst [.int x, .int y, .int (z + 1)])) j = some (.lst [.int x, .int y, .int (z + 1)]) := upd_same
    generalize upd H j (.lst [.int x, .int y, .int (z + 1)]) = H1 at *
    have hby : -(2 ^ 64) < y % 40009 + 20021 ∧ y % 40009 + 20021 < 2 ^ 64 := by
      have e1 := Int.emod_nonneg y (show (40009 : Int) ≠ 0 by decide)
      have e2 := Int.emod_lt_of_pos y (show (0 : Int) < 40009 by decide)
      constructor <;> omega
    refine ⟨_, rfl, _, rfl, _, _, rfl, rfl, .inr hby, _, rfl, j, _, 2, V.int (z + 1), rfl, rfl, .of h1, rfl, _, _, rfl, rfl, .inl ⟨by decide, by decide⟩, _, _, rfl, rfl, _, _, rfl, rfl, .inl ⟨_, rfl, _, _, rfl, rfl, by show (0 : Int) < 2147483629; decide, _, rfl, j, _, 1, 1, rfl, rfl, h1, rfl, ?_⟩⟩
    dsimp only
    generalize (y * (y % 40009 + 20021) + 60013 * (z + 1) + 11) % 2147483629 = y2
    have b2 : But j H1 (upd H1 j (.lst [.int x, .int y2, .int (z + 1)])) := But.upd
    have h2 : (upd H1 j (.lst [.int x, .int y2, .int (z + 1)])) j = some (.lst [.int x, .int y2, .int (z + 1)]) := upd_same
    have u2 : upd H1 j (.lst ([V.int x, .int y, .int (z + 1)].set 1 (.int y2))) = upd H1 j (.lst [.int x, .int y2, .int (z + 1)]) := rfl
    rw [u2]
    generalize upd H1 j (.lst [.int x, .int y2, .int (z + 1)]) = H2 at *
    refine ⟨_, rfl, j, _, 0, V.int x, rfl, rfl, .of h2, rfl, _, _, rfl, rfl, _, rfl, ?_⟩
    refine ite2 (fun hx => ?_) (fun hx => ?_)
    · refine ⟨_, rfl, j, _, 0, V.int x, rfl, rfl, .of h2, rfl, _, rfl, _, _, rfl, ⟨n0, n1⟩, fun p hp => ?_⟩
      have npj : p ≠ j := JarAt.ne ⟨_, _, _, h2⟩ hp
      have h3 : (upd H2 p (.tup [.int (x / n), .int (x % n)])) j = some (.lst [.int x, .int y2, .int (z + 1)]) := by
        rw [upd_ne (Ne.symm npj)]
        exact h2
      refine ⟨p, _, rfl, .of upd_same, rfl, _, _, rfl, _, rfl, j, _, 0, 0, rfl, rfl, h3, rfl, _, _, rfl, rfl, ?_⟩
      refine ⟨_, rfl, k _ _ (Int.emod_nonneg x (by omega)) (Int.emod_lt_of_pos x n0) ?_ ⟨_, _, _, upd_same⟩⟩
      exact ((b1.trans b2).trans (.of (Same.upd hp))).trans But.upd
    · refine ⟨_, rfl, j, _, 1, V.int y2, rfl, rfl, .of h2, rfl, _, _, rfl, rfl, ⟨by decide, by decide⟩, .inl ⟨_, rfl, _, rfl, _, _, rfl, rfl, n0, ?_⟩⟩
      exact k _ _ (Int.emod_nonneg _ (by omega)) (Int.emod_lt_of_pos _ n0) (b1.trans b2) ⟨_, _, _, h2⟩
/-! ### _law_pick -/
def spPick (K : PySem.W.Frag) : Sp := fun vs H Q _ => ∃ (j m : Addr) (xs : List V), vs = [.ref j, .ref m] ∧ JarAt H j ∧ SqL K H m xs ∧ m ≠ j ∧ xs ≠ [] ∧ xs.length < 1073741824 ∧ ∀ (x : V) H', x ∈ xs → But j H H' → JarAt H' j → Q x H'
theorem sc34 : FnScope ["_law_jar_here", "_law_menu"] ["_law_jar_here", "_law_menu"] (defScope (topS 34)) := ⟨rfl, rfl, rfl, by decide +kernel, rfl, by decide +kernel, by decide +kernel⟩
theorem ok_pick (G : Glb mg) (D : DnE K mg "_law_pick" 34 ["_law_jar_here", "_law_menu"]) (A : OkF P w K mg base 1 "_law_draw" 33 ["_law_jar_here", "_law_size"] spDraw) : OkF P w K mg base 2 "_law_pick" 34 ["_law_jar_here", "_law_menu"] (spPick K) := by
  obtain ⟨f, fd, D⟩ := D
  obtain ⟨f1, fd1, D1, G1⟩ := A
  refine ⟨f, fd, D, D.F.ok sc34 (fun vs H Q E h => ?_) (fun cdv A outer s H vs Q E hr h => ?_)⟩
  · obtain ⟨j, m, xs, rfl, _⟩ := h
    rfl
  · obtain ⟨j, m, xs, rfl, hj, hm, nm, ne, hl, k⟩ := h
    refine ⟨_, pss_one (ps_ret (pe_ix ix_list (pv 1) (pe_call G1 hr rfl D1.m D1.F.kp D1.b .nil pass0 (pa_cons (pv 0) (pa_cons (pe_callB call_len_seq rfl G.len bLen (pa_cons (pv 1) pa_nil)) pa_nil))) (fun _ _ => rfl))), ?_⟩
    have lp : 0 < xs.length := List.length_pos_iff.mpr ne
    refine ⟨_, rfl, _, rfl, _, rfl, m, xs, rfl, .inl hm, j, _, rfl, hj, by omega, by omega, fun r H' r0 r1 b hj' => ?_⟩
    obtain ⟨i, rfl⟩ : ∃ i : Nat, r = (i : Nat) := ⟨r.toNat, by omega⟩
    have hi : i < xs.length := by omega
    have hx : xs[i]? = some xs[i] := List.getElem?_eq_getElem hi
    exact ⟨m, xs, _, _, rfl, rfl, sqL_but b hm nm, atI_nat hx, k _ H' (List.mem_of_getElem? hx) b hj'⟩
end
end K3

/-! The law's own defs, 7: tags. -/
namespace K3
open PySem PySem.Spec PyProof.Rows L2 TL
theorem bRan : bootBuiltins "range" = some (.type "range") := by decide +kernel
theorem sub_len {α : Type} [DecidableEq α] : ∀ {l m : List α}, l.Nodup → (∀ x ∈ l, x ∈ m) → l.length ≤ m.length
  | [], m, _, _ => Nat.zero_le _
  | a :: l, m, nd, h => by
    have nd' := List.nodup_cons.mp nd
    have ha := h a List.mem_cons_self
    have := sub_len (l := l) (m := m.erase a) nd'.2 fun x hx => by
      have hne : x ≠ a := fun e => nd'.1 (e ▸ hx)
      exact (List.mem_erase_of_ne hne).mpr (h x (List.mem_cons_of_mem _ hx))
    rw [List.length_erase_of_mem ha] at this
    have hp : 0 < m.length := List.length_pos_iff.mpr fun e => by
      rw [e] at ha
      cases ha
    simp only [List.length_cons]
    omega
def menu13 : List Str := ["all", "a", "b", "north", "in", "less", "more", "zz", "abcdefgh", "row", "count", "area", "x"]
theorem menu_nodup : menu13.Nodup := by decide +kernel
theorem menu_tag : ∀ w ∈ menu13, isTag w = true := by decide +kernel
section
variable {P : Program} {w : World} {K : PySem.W.Frag} {mg : Str → Option Value} {base : Heap}
def spTags (K : PySem.W.Frag) : Sp := fun vs H Q _ => ∃ (j : Addr) (n : Int), vs = [.ref j, .int n] ∧ JarAt H j ∧ 0 ≤ n ∧ n ≤ 10 ∧ ∀ b (ws : List Str) H', But j H H' → JarAt H' j → H b = none → H' b = some (.lst (ws.map V.str)) → (ws.length : Int) = n → ws.Nodup → (∀ w ∈ ws, isTag w = true) → Q (.ref b) H'
theorem sc35 : FnScope ["_law_jar_here", "_law_many", "_law_found", "_law_menu", "_law_turn", "_law_each"] ["_law_jar_here", "_law_many"] (defScope (topS 35)) := ⟨rfl, rfl, rfl, by decide +kernel, rfl, by decide +kernel, by decide +kernel⟩
theorem ok_tags (G : Glb mg) (D : DnE K mg "_law_tags" 35 ["_law_jar_here", "_law_many"]) (A : OkF P w K mg base 2 "_law_pick" 34 ["_law_jar_here", "_law_menu"] (spPick K)) : OkF P w K mg base 3 "_law_tags" 35 ["_law_jar_here", "_law_many"] (spTags K) := by
  obtain ⟨f, fd, D⟩ := D
  obtain ⟨f1, fd1, D1, G1⟩ := A
  refine ⟨f, fd, D, D.F.ok sc35 (fun vs H Q E h => ?_) (fun cdv A outer s H vs Q E hr h => ?_)⟩
  · obtain ⟨j, n, rfl, _⟩ := h
    rfl
  · obtain ⟨j, n, rfl, hj, n0, n10, k⟩ := h
    refine ⟨_, pss_cons (ps_asg (pe_tup (pa_cons (pe_lst pa_nil) (pa_cons (pe_lst (pa_cons pe_str (pa_cons pe_str (pa_cons pe_str (pa_cons pe_str (pa_cons pe_str (pa_cons pe_str (pa_cons pe_str (pa_cons pe_str (pa_cons pe_str (pa_cons pe_str (pa_cons pe_str (pa_cons pe_str (pa_cons pe_str pa_nil)))))))))))))) pa_nil)))
        (pg_tup rfl (pgs_cons (pg_name (i := 2) sc35.nd rfl (Or.inr rfl)) (pgs_cons (pg_name (i := 3) sc35.nd rfl (Or.inl rfl)) pgs_nil))))
      (pss_cons (ps_for PassesOwn.never rfl (pi_range1 rfl G.ran (pa_cons (pv 1) pa_nil)) (pg_name (i := 4) sc35.nd rfl (Or.inl rfl))
        (pss_one (ps_expr (pe_bm PySem.F.plainAttrs_list PySem.F.slot_list_append PySem.F.type_list_append mt_append (pv 2) (pa_cons (pe_call G1 hr rfl D1.m D1.F.kp D1.b .nil pass0 (pa_cons (pv 0) (pa_cons
          (pe_lc (own := [("_law_each", 5)]) (g := gName 5) (tt := tTest (tOp (rIn K true) (tVar 5) (tVar 2))) rfl sc35.nd (pi_list (pv 3)) (blkOk_by (N := ["_law_jar_here", "_law_many", "_law_found", "_law_menu", "_law_turn", "_law_each"]) (sc := defScope (topS 35)) (by decide +kernel))
            (fun _ _ _ _ _ => pg_name (i := 5) sc35.nd rfl (Or.inl rfl)) (fun _ _ _ _ _ => pts_one (pt_cmpR op_notIn_seq (pv 5) (pv 2) (by with_unfolding_all rfl))) (fun _ _ _ _ _ => pv 5)) pa_nil))) pa_nil)))))
      (pss_one (ps_ret (pv 2)))), ?_⟩
    refine ⟨by decide, fun a ha => ⟨by show 13 ≤ sizeLine; exact big4000 (by decide), fun m hm => ⟨by show 2 ≤ sizeLine; exact big4000 (by decide), fun t ht => ?_⟩⟩⟩
    have s1 : Same H (upd H a (.lst [])) := Same.upd ha
    have em : ([.str "all", .str "a", .str "b", .str "north", .str "in", .str "less", .str "more", .str "zz", .str "abcdefgh", .str "row", .str "count", .str "area", .str "x"] : List V) = menu13.map V.str := rfl
    rw [em] at ht ⊢
    have s2 : Same (upd H a (.lst [])) (upd (upd H a (.lst [])) m (.lst (menu13.map V.str))) := Same.upd hm
    have ha1 : (upd (upd H a (.lst [])) m (.lst (menu13.map V.str))) a = some (.lst []) := s2 _ _ upd_same
    have hm1 : (upd (upd H a (.lst [])) m (.lst (menu13.map V.str))) m = some (.lst (menu13.map V.str)) := upd_same
    have naj := hj.ne ha
    have nmj : m ≠ j := hj.ne (s1.free hm)
    have nam : a ≠ m := ne_of_none (upd_same (H := H) (o := HO.lst [])) hm
    have s12 := s1.trans s2
    generalize upd (upd H a (.lst [])) m (.lst (menu13.map V.str)) = H1 at *
    have s3 : Same H1 (upd H1 t (.tup [.ref a, .ref m])) := Same.upd ht
    have ht2 : SqT K (upd H1 t (.tup [.ref a, .ref m])) t [.ref a, .ref m] := .of upd_same
    have ha2 := s3 _ _ ha1
    have hm2 := s3 _ _ hm1
    have s13 := s12.trans s3
    generalize upd H1 t (.tup [.ref a, .ref m]) = H2 at *
    refine ⟨t, _, rfl, ht2, rfl, _, _, rfl, _, _, rfl, rfl, ?_⟩
    refine ⟨_, rfl, n, rfl, by omega, by omega, ?_⟩
    refine for_it (walk_range (lo := 0) (n := n.toNat)) (fun i σ H3 => ∃ (ws : List Str) (u : Option V), σ = [some (.ref j), some (.int n), some (.ref a), some (.ref m), u, none] ∧ But j H H3 ∧ JarAt H3 j ∧ H3 a = some (.lst (ws.map V.str)) ∧ H3 m = some (.lst (menu13.map V.str)) ∧ ws.length = i ∧ ws.Nodup ∧ ∀ w ∈ ws, w ∈ menu13)
      ⟨[], none, rfl, .of s13, hj.same s13, ha2, hm2, rfl, List.nodup_nil, by simp⟩ (fun _ _ _ _ _ => trivial) ?_ ?_
    · rintro i x σ H3 H4 hi ⟨ws, u, rfl, b3, hj3, ha3, hm3, hl3, nd3, hw3⟩ ⟨rfl, rfl⟩
      refine ⟨_, rfl, .inl ⟨rfl, _, .of ha3⟩, _, rfl, _, rfl, m, rfl, ⟨_, .of hm3⟩, fun L hL => ?_⟩
      have nLj := hj3.ne hL
      refine lc_data (K := K) (walk_list (xs := menu13.map V.str)) (fun i => (menu13[i]?).bind fun w => if (!decide (w ∈ ws)) = true then some (PyData.str w) else none) hL (by rw [List.length_map]; decide) (fun H5 s5 => .of (s5 _ _ hm3)) (fun i d e => ?_) (fun i v H5 H6 C hi' s5 y c1 c2 => ?_) (fun H5 ys s5 hys r => ?_)
      · obtain ⟨c, _, e⟩ := Option.bind_eq_some_iff.mp e
        split at e
        · cases e
          rfl
        · cases e
      · obtain ⟨rfl, hv⟩ := y
        rw [List.getElem?_map] at hv
        obtain ⟨c, hc, rfl⟩ := Option.map_eq_some_iff.mp hv
        refine ⟨rfl, ?_⟩
        have ef : ((menu13[i]?).bind fun w => if (!decide (w ∈ ws)) = true then some (PyData.str w) else none) = if (!decide (c ∈ ws)) = true then some (PyData.str c) else none := by
          rw [hc]
          rfl
        refine ⟨_, rfl, _, rfl, a, _, rfl, .inl (.of (s5 _ _ ha3)), rfl, strs_flat _, _, rfl, ?_⟩
        show if (!inV (V.str c) (ws.map V.str)) = true then _ else _
        rw [inStr]
        refine ite2 (fun ht => ?_) (fun ht => ?_)
        · refine ⟨_, rfl, c1 _ _ (.str c) (Same.refl _) ?_ (.str _)⟩
          rw [ef, if_pos ht]
        · refine c2 _ (Same.refl _) ?_
          rw [ef, if_neg ht]
      · have e : (List.range (menu13.map V.str).length).filterMap (fun i => (menu13[i]?).bind fun w => if (!decide (w ∈ ws)) = true then some (PyData.str w) else none) = (menu13.filter fun w => !decide (w ∈ ws)).map PyData.str := by
          rw [List.length_map]
          exact fm_filter (fun w => !decide (w ∈ ws)) PyData.str menu13
        rw [e] at r
        have hys' := hys.trans (congrArg (fun z => some (HO.lst z)) (dpAll_strs r))
        have hne : (menu13.filter fun w => !decide (w ∈ ws)) ≠ [] := fun q => by
          have h1 : ∀ x ∈ menu13, x ∈ ws := fun x hx => by
            have := List.filter_eq_nil_iff.mp q x hx
            simpa using this
          have h2 := sub_len menu_nodup h1
          have h3 : menu13.length = 13 := rfl
          omega
        refine ⟨j, L, _, rfl, hj3.same s5, .of hys', nLj, fun q => hne (List.map_eq_nil_iff.mp q), ?_, fun x H7 hx b7 hj7 => ?_⟩
        · rw [List.length_map]
          have := List.length_filter_le (fun w => !decide (w ∈ ws)) menu13
          have h3 : menu13.length = 13 := rfl
          omega
        · obtain ⟨c, hc, rfl⟩ := List.mem_map.mp hx
          obtain ⟨hc1, hc2⟩ := List.mem_filter.mp hc
          have hc2 : c ∉ ws := by simpa using hc2
          have ha7 := b7 _ _ (s5 _ _ ha3) naj
          have hm7 := b7 _ _ (s5 _ _ hm3) nmj
          refine ⟨a, _, _, rfl, rfl, ha7, ?_, ?_⟩
          · rw [List.length_map]
            have : 4000 < sizeLine := by rw [sizeLine_eq]; omega
            omega
          · refine ⟨ws ++ [c], _, rfl, ?_, ?_, ?_, ?_, ?_, ?_, ?_⟩
            · have b37 : But j H H7 := b3.trans ((But.of s5).trans b7)
              refine fun z o hz hzj => ?_
              rw [upd_ne (ne_of_none hz ha)]
              exact b37 z o hz hzj
            · obtain ⟨x1, y1, z1, h1⟩ := hj7
              exact ⟨x1, y1, z1, by rw [upd_ne (Ne.symm naj)]; exact h1⟩
            · rw [upd_same, List.map_append]
              rfl
            · rw [upd_ne (Ne.symm nam)]
              exact hm7
            · rw [List.length_append, hl3]
              rfl
            · refine List.nodup_append.mpr ⟨nd3, by simp, fun x hx y hy e => hc2 ?_⟩
              have : y = c := by simpa using hy
              rw [← this, ← e]
              exact hx
            · intro w hw
              rcases List.mem_append.mp hw with z | z
              · exact hw3 w z
              · have : w = c := by simpa using z
                rw [this]
                exact hc1
    · rintro σ H3 ⟨ws, u, rfl, b3, hj3, ha3, hm3, hl3, nd3, hw3⟩
      exact ⟨_, rfl, k a ws H3 b3 hj3 ha ha3 (by omega) nd3 fun w hw => menu_tag w (hw3 w hw)⟩
end
end K3

/-! The law's own defs, 8: drawn. -/
namespace K3
open PySem PySem.Spec PyProof.Rows L2 TL
theorem okFrom_snoc : ∀ {ls : List Line} {ns : List Str} {l : Line}, okFrom ns (ls.map some) = true → ns.length + ls.length < 10 → lineOk (ns ++ ls.map (·.1)) l = true → okFrom ns ((ls ++ [l]).map some) = true
  | [], ns, l, _, hn, hl => by
    rw [List.map_nil, List.append_nil] at hl
    show okFrom ns [some l] = true
    rw [okFrom_good (by simpa using hn) hl]
    rfl
  | m :: ls, ns, l, h, hn, hl => by
    have h : okFrom ns (some m :: ls.map some) = true := h
    unfold okFrom at h
    simp only [Bool.and_eq_true] at h
    show okFrom ns (some m :: (ls ++ [l]).map some) = true
    rw [okFrom_good (of_decide_eq_true h.1.1) h.1.2]
    refine okFrom_snoc h.2 (by simp only [List.length_append, List.length_cons, List.length_nil] at hn ⊢; omega) ?_
    rw [List.append_assoc]
    exact hl
section
variable {P : Program} {w : World} {K : PySem.W.Frag} {mg : Str → Option Value} {base : Heap}
def spDrawn (K : PySem.W.Frag) : Sp := fun vs H Q _ => ∃ (j : Addr), vs = [.ref j, .int 10] ∧ JarAt H j ∧ ∀ v (ls : List Line) H', But j H H' → JarAt H' j → Dp K H' v (linesD ls) → Good ls → Q v H'
theorem sc36 : FnScope ["_law_jar_here", "_law_most", "_law_many", "_law_lines", "_law_tags_here", "_law_k", "_law_tag", "_law_low", "_law_parent"] ["_law_jar_here", "_law_most"] (defScope (topS 36)) := ⟨rfl, rfl, rfl, by decide +kernel, rfl, by decide +kernel, by decide +kernel⟩
theorem ok_drawn (G : Glb mg) (D : DnE K mg "_law_drawn" 36 ["_law_jar_here", "_law_most"]) (A1 : OkF P w K mg base 1 "_law_draw" 33 ["_law_jar_here", "_law_size"] spDraw) (A2 : OkF P w K mg base 2 "_law_pick" 34 ["_law_jar_here", "_law_menu"] (spPick K))
    (A3 : OkF P w K mg base 3 "_law_tags" 35 ["_law_jar_here", "_law_many"] (spTags K)) : OkF P w K mg base 4 "_law_drawn" 36 ["_law_jar_here", "_law_most"] (spDrawn K) := by
  obtain ⟨f, fd, D⟩ := D
  obtain ⟨f1, fd1, D1, G1⟩ := A1
  obtain ⟨f2, fd2, D2, G2⟩ := A2
  obtain ⟨f3, fd3, D3, G3⟩ := A3
  refine ⟨f, fd, D, D.F.ok sc36 (fun vs H Q E h => ?_) (fun cdv A outer s H vs Q E hr h => ?_)⟩
  · obtain ⟨j, rfl, _⟩ := h
    rfl
  · obtain ⟨j, rfl, hj, k⟩ := h
    have hr1 : Room 1 _ := hr.mono (by decide)
    have hr2 : Room 2 _ := hr.mono (by decide)
    refine ⟨_, pss_cons (ps_par (i := 2) (j := 3) (by rfl) sc36.nd rfl rfl (by decide) rfl rfl (pa_cons (pe_op op_add pe_int (pe_call G1 hr1 rfl D1.m D1.F.kp D1.b .nil pass0 (pa_cons (pv 0) (pa_cons (pv 1) pa_nil)))) (pa_cons (pe_lst pa_nil) pa_nil)) (by rfl))
      (pss_cons (ps_set (i := 4) sc36.nd rfl (Or.inl rfl) (pe_call G3 hr rfl D3.m D3.F.kp D3.b .nil pass0 (pa_cons (pv 0) (pa_cons (pv 2) pa_nil))))
      (pss_cons (ps_for PassesOwn.never rfl (pi_enum rfl G.enu (pa_cons (pv 4) pa_nil)) (pg_tup rfl (pgs_cons (pg_name (i := 5) sc36.nd rfl (Or.inl rfl)) (pgs_cons (pg_name (i := 6) sc36.nd rfl (Or.inl rfl)) pgs_nil)))
        (pss_cons (ps_set (i := 7) sc36.nd rfl (Or.inl rfl) (pe_call G1 hr1 rfl D1.m D1.F.kp D1.b .nil pass0 (pa_cons (pv 0) (pa_cons (pe_call G2 hr2 rfl D2.m D2.F.kp D2.b .nil pass0 (pa_cons (pv 0) (pa_cons (pe_lst (pa_cons pe_int (pa_cons pe_int (pa_cons pe_int (pa_cons pe_int pa_nil))))) pa_nil))) pa_nil))))
        (pss_cons (ps_set (i := 8) sc36.nd rfl (Or.inl rfl) (pe_ifExp (pt_cmpR op_eq (pv 5) pe_int (nomark _)) pe_str (pe_ix ix_list (pv 4) (pe_call G1 hr1 rfl D1.m D1.F.kp D1.b .nil pass0 (pa_cons (pv 0) (pa_cons (pv 5) pa_nil))) (fun _ _ => rfl))))
        (pss_one (ps_expr (pe_bm PySem.F.plainAttrs_list PySem.F.slot_list_append PySem.F.type_list_append mt_append (pv 3) (pa_cons (pe_tup (pa_cons (pv 6) (pa_cons (pv 8) (pa_cons (pe_tup (pa_cons (pv 7) (pa_cons
          (pe_callB (call_min2 rfl) rfl G.min bMin (pa_cons pe_int (pa_cons (pe_op op_add (pv 7) (pe_call G1 hr1 rfl D1.m D1.F.kp D1.b .nil pass0 (pa_cons (pv 0) (pa_cons (pe_call G2 hr2 rfl D2.m D2.F.kp D2.b .nil pass0 (pa_cons (pv 0) (pa_cons (pe_lst (pa_cons pe_int (pa_cons pe_int (pa_cons pe_int (pa_cons pe_int pa_nil))))) pa_nil))) pa_nil)))) pa_nil))) pa_nil))) pa_nil)))) pa_nil)))))))
      (pss_one (ps_ret (pe_callTy call_tuple_of rfl G.tup bTup (pa_cons (pv 3) pa_nil)))))), ?_⟩
    refine ⟨_, rfl, _, rfl, j, 10, rfl, hj, by decide, by decide, fun r H1 r0 r1 b1 hj1 => ⟨_, _, rfl, rfl, by decide, fun l hl => ⟨_, _, rfl, ?_⟩⟩⟩
    have nlj := hj1.ne hl
    have hlH : H l = none := b1.free hj hl nlj
    have s2 : Same H1 (upd H1 l (.lst [])) := Same.upd hl
    have hl2 : (upd H1 l (.lst [])) l = some (.lst []) := upd_same
    have b2 : But j H (upd H1 l (.lst [])) := b1.trans (.of s2)
    have hj2 := hj1.same s2
    generalize upd H1 l (.lst []) = H2 at *
    refine ⟨_, rfl, _, rfl, j, 1 + r, rfl, hj2, by omega, by omega, fun b ws H3 b3 hj3 hb hb3 hlw nd htag => ?_⟩
    have nbj := hj2.ne hb
    have nlb : l ≠ b := ne_of_none hl2 hb
    have hbH : H b = none := b2.free hj hb nbj
    have hl3 := b3 _ _ hl2 nlj
    have b23 := b2.trans b3
    refine ⟨_, rfl, b, _, rfl, .of hb3, ?_⟩
    refine for_it (walk_enum (K := K) (a := b) (xs := ws.map V.str)) (fun i σ H4 => ∃ (ls : List Line) (ys : List V) (u1 u2 u3 u4 : Option V), σ = [some (.ref j), some (.int 10), some (.int (1 + r)), some (.ref l), some (.ref b), u1, u2, u3, u4] ∧ But j H H4 ∧ JarAt H4 j ∧ H4 b = some (.lst (ws.map V.str)) ∧
        H4 l = some (.lst ys) ∧ DpAll K H4 ys (ls.map lineD) ∧ ls.length = i ∧ ls.map (·.1) = ws.take i ∧ okFrom [] (ls.map some) = true)
      ⟨[], [], none, none, none, none, rfl, b23, hj3, hb3, hl3, .nil, rfl, rfl, rfl⟩ (fun _ _ _ _ ⟨_, _, _, _, _, _, _, _, _, h, _⟩ => .of h) ?_ ?_
    · rintro i x σ H4 H5 hi ⟨ls, ys, u1, u2, u3, u4, rfl, b4, hj4, hb4, hl4, hd4, ll, hnm, hok⟩ ⟨t, xi, xv, rfl, ht, rfl, exi, hxv⟩
      obtain rfl := Option.some.inj exi
      have hxv : (ws.map V.str)[i]? = some xv := hxv
      rw [List.getElem?_map] at hxv
      obtain ⟨tag, htg, rfl⟩ := Option.map_eq_some_iff.mp hxv
      rw [List.length_map] at hi
      have s5 : Same H4 (upd H4 t (.tup [.int (i : Nat), .str tag])) := Same.upd ht
      have ht5 : SqT K (upd H4 t (.tup [.int (i : Nat), .str tag])) t [.int (i : Nat), .str tag] := .of upd_same
      have b5 := b4.trans (.of s5 (j := j))
      have hj5 := hj4.same s5
      have hb5 := s5 _ _ hb4
      have hl5 := s5 _ _ hl4
      have hd5 := dpAll_same s5 hd4
      generalize upd H4 t (.tup [.int (i : Nat), .str tag]) = H5 at *
      clear s5 hb4 hl4 hd4 hj4 b4 ht
      refine ⟨t, _, rfl, ht5, rfl, _, _, rfl, _, _, rfl, rfl, ?_⟩
      clear ht5
      -- low
      refine ⟨_, rfl, _, rfl, by show 4 ≤ sizeLine; exact big4000 (by decide), fun m hm => ?_⟩
      have s6 : Same H5 (upd H5 m (.lst [.int 1, .int 4, .int 60, .int 4001])) := Same.upd hm
      have hm6 : SqL K (upd H5 m (.lst [.int 1, .int 4, .int 60, .int 4001])) m [.int 1, .int 4, .int 60, .int 4001] := .of upd_same
      have nmj := hj5.ne hm
      have b6 := b5.trans (.of s6 (j := j))
      have hj6 := hj5.same s6
      have hb6 := s6 _ _ hb5
      have hl6 := s6 _ _ hl5
      have hd6 := dpAll_same s6 hd5
      generalize upd H5 m (.lst [.int 1, .int 4, .int 60, .int 4001]) = H6 at *
      clear s6 hb5 hl5 hd5 hj5 b5 hm
      refine ⟨j, m, _, rfl, hj6, hm6, nmj, by simp, by show 4 < 1073741824; decide, fun x H7 hx b67 hj7 => ?_⟩
      have hx' : ∃ n : Int, x = .int n ∧ 0 < n ∧ n ≤ 4001 := by
        simp only [List.mem_cons, List.not_mem_nil, or_false] at hx
        rcases hx with rfl | rfl | rfl | rfl
        · exact ⟨1, rfl, by decide, by decide⟩
        · exact ⟨4, rfl, by decide, by decide⟩
        · exact ⟨60, rfl, by decide, by decide⟩
        · exact ⟨4001, rfl, by decide, by decide⟩
      obtain ⟨n, rfl, n0, n1⟩ := hx'
      refine ⟨j, n, rfl, hj7, n0, by omega, fun low H8 lo0 lo1 b78 hj8 => ?_⟩
      have b68 := b67.trans b78
      have b8 := b6.trans b68
      have hb8 := b68 _ _ hb6 nbj
      have hl8 := b68 _ _ hl6 nlj
      have hd8 := dpAll_tk (b68.kt (show ∃ xs, H6 j = some (.lst xs) from by obtain ⟨_, _, _, h⟩ := hj6; exact ⟨_, h⟩).choose_spec).tk _ _ (flatDs_lines ls) hd6
      clear hb6 hl6 hd6 hj6 b6 hm6 hj7 b67 b78 b68
      -- parent
      have hnot : tag ∉ ls.map (·.1) := fun hm => by
        rw [hnm] at hm
        obtain ⟨q, hq⟩ := List.getElem?_of_mem hm
        have hq1 : q < i := by
          have := (List.getElem?_eq_some_iff.mp hq).1
          rw [List.length_take] at this
          omega
        rw [List.getElem?_take_of_lt hq1] at hq
        have := (List.getElem?_inj (List.getElem?_eq_some_iff.mp hq).1 nd).mp (hq.trans htg.symm)
        omega
      refine ⟨_, rfl, rfl, _, rfl, ?_⟩
      rw [intEq]
      by_cases hi0 : i = 0
      · rw [decide_eq_true (show ((i : Nat) : Int) = 0 by omega)]
        refine iteT ?_
        have hpa : (if ls.map (·.1) = [] then decide (Str.ofString "" = Str.empty) else decide (Str.ofString "" ∈ ls.map (·.1))) = true := by
          have e : ls = [] := List.length_eq_zero_iff.mp (by omega)
          rw [if_pos (by rw [e]; rfl)]
          decide +kernel
        obtain ⟨H9, e9⟩ : ∃ H9, H9 = H8 := ⟨_, rfl⟩
        rw [← e9] at b8 hj8 hb8 hl8 hd8 ⊢
        have b9 := b8
        have hj9 := hj8
        have hb9 := hb8
        have hl9 := hl8
        have hd9 := hd8
        clear b8 hj8 hb8 hl8 hd8
        have hlt : tag ∈ ws := List.mem_of_getElem? htg
        refine ⟨_, rfl, .inl ⟨rfl, _, .of hl9⟩, _, rfl, _, rfl, _, rfl, _, rfl, _, rfl, _, rfl, by show 4 ≤ sizeLine; exact big4000 (by decide), fun m2 hm2 => ?_⟩
        have s10 : Same H9 (upd H9 m2 (.lst [.int 1, .int 2, .int 50, .int 4001])) := Same.upd hm2
        have hm10 : SqL K (upd H9 m2 (.lst [.int 1, .int 2, .int 50, .int 4001])) m2 [.int 1, .int 2, .int 50, .int 4001] := .of upd_same
        have nm2j := hj9.ne hm2
        have b10 := b9.trans (.of s10 (j := j))
        have hj10 := hj9.same s10
        have hb10 := s10 _ _ hb9
        have hl10 := s10 _ _ hl9
        have hd10 := dpAll_same s10 hd9
        generalize upd H9 m2 (.lst [.int 1, .int 2, .int 50, .int 4001]) = H10 at *
        refine ⟨j, m2, _, rfl, hj10, hm10, nm2j, by simp, by show 4 < 1073741824; decide, fun x2 H11 hx2 b1011 hj11 => ?_⟩
        have hx2' : ∃ n : Int, x2 = .int n ∧ 0 < n ∧ n ≤ 4001 := by
          simp only [List.mem_cons, List.not_mem_nil, or_false] at hx2
          rcases hx2 with rfl | rfl | rfl | rfl
          · exact ⟨1, rfl, by decide, by decide⟩
          · exact ⟨2, rfl, by decide, by decide⟩
          · exact ⟨50, rfl, by decide, by decide⟩
          · exact ⟨4001, rfl, by decide, by decide⟩
        obtain ⟨n2, rfl, n20, n21⟩ := hx2'
        refine ⟨j, n2, rfl, hj11, n20, by omega, fun dd H12 d0 d1 b1112 hj12 => ?_⟩
        have b1012 := b1011.trans b1112
        have b12 := b10.trans b1012
        have hb12 := b1012 _ _ hb10 nbj
        have hl12 := b1012 _ _ hl10 nlj
        have hd12 := dpAll_tk (b1012.kt (show ∃ xs, H10 j = some (.lst xs) from by obtain ⟨_, _, _, h⟩ := hj10; exact ⟨_, h⟩).choose_spec).tk _ _ (flatDs_lines ls) hd10
        refine ⟨_, _, rfl, rfl, _, _, rfl, by show 2 ≤ sizeLine; exact big4000 (by decide), fun t1 ht1 => ⟨by show 3 ≤ sizeLine; exact big4000 (by decide), fun t2 ht2 => ?_⟩⟩
        obtain ⟨hi, ehi⟩ : ∃ hi : Int, hi = if low + dd < 4000 then low + dd else 4000 := ⟨_, rfl⟩
        have hhi : low ≤ hi ∧ hi ≤ 4000 := by
          rw [ehi]
          split <;> omega
        dsimp only at ht2 ⊢
        rw [← ehi] at ht2 ⊢
        have s13 : Same H12 (upd H12 t1 (.tup [.int low, .int hi])) := Same.upd ht1
        have hs13 : Dp K (upd H12 t1 (.tup [.int low, .int hi])) (.ref t1) (spanD (low, hi)) := dp_span_of (.of upd_same)
        have b13 := b12.trans (.of s13 (j := j))
        have hj13 := hj12.same s13
        have hb13 := s13 _ _ hb12
        have hl13 := s13 _ _ hl12
        have hd13 := dpAll_same s13 hd12
        generalize upd H12 t1 (.tup [.int low, .int hi]) = H13 at *
        have s14 : Same H13 (upd H13 t2 (.tup [.str tag, .str (Str.ofString ""), .ref t1])) := Same.upd ht2
        have hs14 : Dp K (upd H13 t2 (.tup [.str tag, .str (Str.ofString ""), .ref t1])) (.ref t2) (lineD (tag, (Str.ofString ""), low, hi)) := dp_line_of (.of upd_same) (dp_same s14 hs13)
        have b14 := b13.trans (.of s14 (j := j))
        have hj14 := hj13.same s14
        have hb14 := s14 _ _ hb13
        have hl14 := s14 _ _ hl13
        have hd14 := dpAll_same s14 hd13
        generalize upd H13 t2 (.tup [.str tag, .str (Str.ofString ""), .ref t1]) = H14 at *
        have slb : 4000 < sizeLine := by rw [sizeLine_eq]; omega
        have ely : ys.length = i := by rw [dpAll_len hd14, List.length_map, ll]
        refine ⟨l, _, _, rfl, rfl, hl14, by omega, ?_⟩
        have kt15 : TK H14 (upd H14 l (.lst (ys ++ [V.ref t2]))) := ((But.upd (j := l)).kt hl14).tk
        refine ⟨ls ++ [(tag, (Str.ofString ""), low, hi)], ys ++ [V.ref t2], _, _, _, _, rfl, fun z o hz hzj => ?_, ?_, ?_, upd_same, ?_, ?_, ?_, ?_⟩
        · rw [upd_ne (ne_of_none hz hlH)]
          exact b14 z o hz hzj
        · obtain ⟨x1, y1, z1, h1⟩ := hj14
          exact ⟨x1, y1, z1, by rw [upd_ne (Ne.symm nlj)]; exact h1⟩
        · rw [upd_ne (Ne.symm nlb)]
          exact hb14
        · rw [List.map_append]
          refine dpAll_tk kt15 _ _ ?_ (dpAll_snoc hd14 hs14)
          have := flatDs_lines (ls ++ [(tag, (Str.ofString ""), low, hi)])
          rw [List.map_append] at this
          exact this
        · rw [List.length_append, ll]
          rfl
        · rw [List.map_append, hnm, List.take_succ, htg]
          rfl
        · refine okFrom_snoc hok (by simp only [List.length_nil]; omega) ?_
          unfold lineOk
          rw [List.nil_append, htag tag hlt, hpa, decide_eq_false hnot]
          have so : spanOk (low, hi) = true := spanOk_iff.mpr ⟨lo0, hhi.1, hhi.2⟩
          rw [so]
          rfl
      · rw [decide_eq_false (show ¬ ((i : Nat) : Int) = 0 by omega)]
        refine iteF ?_
        refine ⟨_, rfl, _, rfl, _, rfl, j, (i : Nat), rfl, hj8, by omega, by omega, fun q H9 q0 q1 b89 hj9 => ?_⟩
        obtain ⟨qn, rfl⟩ : ∃ qn : Nat, q = (qn : Nat) := ⟨q.toNat, by omega⟩
        have hqn : qn < ws.length := by omega
        have hpw : ws[qn]? = some ws[qn] := List.getElem?_eq_getElem hqn
        obtain ⟨pw, epw⟩ : ∃ pw, pw = ws[qn] := ⟨_, rfl⟩
        rw [← epw] at hpw
        have b9 := b8.trans b89
        have hb9 := b89 _ _ hb8 nbj
        have hl9 := b89 _ _ hl8 nlj
        have hd9 := dpAll_tk (b89.kt (show ∃ xs, H8 j = some (.lst xs) from by obtain ⟨_, _, _, h⟩ := hj8; exact ⟨_, h⟩).choose_spec).tk _ _ (flatDs_lines ls) hd8
        clear b8 hj8 hb8 hl8 hd8 b89
        refine ⟨b, _, _, V.str pw, rfl, rfl, .of hb9, atI_nat (by rw [List.getElem?_map, hpw]; rfl), ?_⟩
        have hpa : (if ls.map (·.1) = [] then decide (pw = Str.empty) else decide (pw ∈ ls.map (·.1))) = true := by
          rw [if_neg]
          · refine decide_eq_true ?_
            rw [hnm]
            refine List.mem_of_getElem? (i := qn) ?_
            rw [List.getElem?_take_of_lt (by omega)]
            exact hpw
          · intro e
            have := List.map_eq_nil_iff.mp e
            rw [this] at ll
            exact hi0 ll.symm
        have hlt : tag ∈ ws := List.mem_of_getElem? htg
        refine ⟨_, rfl, .inl ⟨rfl, _, .of hl9⟩, _, rfl, _, rfl, _, rfl, _, rfl, _, rfl, _, rfl, by show 4 ≤ sizeLine; exact big4000 (by decide), fun m2 hm2 => ?_⟩
        have s10 : Same H9 (upd H9 m2 (.lst [.int 1, .int 2, .int 50, .int 4001])) := Same.upd hm2
        have hm10 : SqL K (upd H9 m2 (.lst [.int 1, .int 2, .int 50, .int 4001])) m2 [.int 1, .int 2, .int 50, .int 4001] := .of upd_same
        have nm2j := hj9.ne hm2
        have b10 := b9.trans (.of s10 (j := j))
        have hj10 := hj9.same s10
        have hb10 := s10 _ _ hb9
        have hl10 := s10 _ _ hl9
        have hd10 := dpAll_same s10 hd9
        generalize upd H9 m2 (.lst [.int 1, .int 2, .int 50, .int 4001]) = H10 at *
        refine ⟨j, m2, _, rfl, hj10, hm10, nm2j, by simp, by show 4 < 1073741824; decide, fun x2 H11 hx2 b1011 hj11 => ?_⟩
        have hx2' : ∃ n : Int, x2 = .int n ∧ 0 < n ∧ n ≤ 4001 := by
          simp only [List.mem_cons, List.not_mem_nil, or_false] at hx2
          rcases hx2 with rfl | rfl | rfl | rfl
          · exact ⟨1, rfl, by decide, by decide⟩
          · exact ⟨2, rfl, by decide, by decide⟩
          · exact ⟨50, rfl, by decide, by decide⟩
          · exact ⟨4001, rfl, by decide, by decide⟩
        obtain ⟨n2, rfl, n20, n21⟩ := hx2'
        refine ⟨j, n2, rfl, hj11, n20, by omega, fun dd H12 d0 d1 b1112 hj12 => ?_⟩
        have b1012 := b1011.trans b1112
        have b12 := b10.trans b1012
        have hb12 := b1012 _ _ hb10 nbj
        have hl12 := b1012 _ _ hl10 nlj
        have hd12 := dpAll_tk (b1012.kt (show ∃ xs, H10 j = some (.lst xs) from by obtain ⟨_, _, _, h⟩ := hj10; exact ⟨_, h⟩).choose_spec).tk _ _ (flatDs_lines ls) hd10
        refine ⟨_, _, rfl, rfl, _, _, rfl, by show 2 ≤ sizeLine; exact big4000 (by decide), fun t1 ht1 => ⟨by show 3 ≤ sizeLine; exact big4000 (by decide), fun t2 ht2 => ?_⟩⟩
        obtain ⟨hi, ehi⟩ : ∃ hi : Int, hi = if low + dd < 4000 then low + dd else 4000 := ⟨_, rfl⟩
        have hhi : low ≤ hi ∧ hi ≤ 4000 := by
          rw [ehi]
          split <;> omega
        dsimp only at ht2 ⊢
        rw [← ehi] at ht2 ⊢
        have s13 : Same H12 (upd H12 t1 (.tup [.int low, .int hi])) := Same.upd ht1
        have hs13 : Dp K (upd H12 t1 (.tup [.int low, .int hi])) (.ref t1) (spanD (low, hi)) := dp_span_of (.of upd_same)
        have b13 := b12.trans (.of s13 (j := j))
        have hj13 := hj12.same s13
        have hb13 := s13 _ _ hb12
        have hl13 := s13 _ _ hl12
        have hd13 := dpAll_same s13 hd12
        generalize upd H12 t1 (.tup [.int low, .int hi]) = H13 at *
        have s14 : Same H13 (upd H13 t2 (.tup [.str tag, .str pw, .ref t1])) := Same.upd ht2
        have hs14 : Dp K (upd H13 t2 (.tup [.str tag, .str pw, .ref t1])) (.ref t2) (lineD (tag, pw, low, hi)) := dp_line_of (.of upd_same) (dp_same s14 hs13)
        have b14 := b13.trans (.of s14 (j := j))
        have hj14 := hj13.same s14
        have hb14 := s14 _ _ hb13
        have hl14 := s14 _ _ hl13
        have hd14 := dpAll_same s14 hd13
        generalize upd H13 t2 (.tup [.str tag, .str pw, .ref t1]) = H14 at *
        have slb : 4000 < sizeLine := by rw [sizeLine_eq]; omega
        have ely : ys.length = i := by rw [dpAll_len hd14, List.length_map, ll]
        refine ⟨l, _, _, rfl, rfl, hl14, by omega, ?_⟩
        have kt15 : TK H14 (upd H14 l (.lst (ys ++ [V.ref t2]))) := ((But.upd (j := l)).kt hl14).tk
        refine ⟨ls ++ [(tag, pw, low, hi)], ys ++ [V.ref t2], _, _, _, _, rfl, fun z o hz hzj => ?_, ?_, ?_, upd_same, ?_, ?_, ?_, ?_⟩
        · rw [upd_ne (ne_of_none hz hlH)]
          exact b14 z o hz hzj
        · obtain ⟨x1, y1, z1, h1⟩ := hj14
          exact ⟨x1, y1, z1, by rw [upd_ne (Ne.symm nlj)]; exact h1⟩
        · rw [upd_ne (Ne.symm nlb)]
          exact hb14
        · rw [List.map_append]
          refine dpAll_tk kt15 _ _ ?_ (dpAll_snoc hd14 hs14)
          have := flatDs_lines (ls ++ [(tag, pw, low, hi)])
          rw [List.map_append] at this
          exact this
        · rw [List.length_append, ll]
          rfl
        · rw [List.map_append, hnm, List.take_succ, htg]
          rfl
        · refine okFrom_snoc hok (by simp only [List.length_nil]; omega) ?_
          unfold lineOk
          rw [List.nil_append, htag tag hlt, hpa, decide_eq_false hnot]
          have so : spanOk (low, hi) = true := spanOk_iff.mpr ⟨lo0, hhi.1, hhi.2⟩
          rw [so]
          rfl
    · rintro σ H4 ⟨ls, ys, u1, u2, u3, u4, rfl, b4, hj4, hb4, hl4, hd4, ll, hnm, hok⟩
      rw [List.length_map] at ll
      refine ⟨_, rfl, l, ys, rfl, .inl ⟨.of hl4, fun q hq => ?_⟩⟩
      have s5 : Same H4 (upd H4 q (.tup ys)) := Same.upd hq
      refine k _ ls _ (b4.trans (.of s5)) (hj4.same s5) (.tup (.of upd_same) (dpAll_same s5 hd4)) ?_
      unfold Good okAll
      rw [hok]
      cases ls with
      | nil =>
        simp only [List.length_nil] at ll
        omega
      | cons _ _ => rfl
end
end K3

/-! The law's own defs, 9: bent. -/
namespace K3
open PySem PySem.Spec PyProof.Rows L2 TL
theorem cutS_part (z : Str) (lo hi : Option Int) : ∃ a b, tl z = a ++ tl (cutS z lo hi) ++ b := by
  refine ⟨(tl z).take (HT.sIx z.length 0 lo), ((tl z).drop (HT.sIx z.length 0 lo)).drop (HT.sIx z.length z.length hi - HT.sIx z.length 0 lo), ?_⟩
  have e : tl (cutS z lo hi) = ((tl z).drop (HT.sIx z.length 0 lo)).take (HT.sIx z.length z.length hi - HT.sIx z.length 0 lo) := by
    unfold cutS
    simp [tl]
  rw [e, List.append_assoc, List.take_append_drop, List.take_append_drop]
theorem TxT.cut {L m : Nat} {t : Str} (h : TxT L m t) (lo hi : Option Int) : TxT L m (cutS t lo hi) := by
  obtain ⟨a, b, e⟩ := cutS_part t lo hi
  exact h.part e
def signs14 : List Str := ["a", "b", "z", "0", "1", "9", "-", " ", "\n", "+", "  ", " - ", "area", "\narea b a 3"]
theorem signs_ok : ∀ s ∈ signs14, TxT 11 11 s := by
  have h : ∀ s ∈ signs14, s.length ≤ 11 ∧ ∀ c ∈ tl s, c < 128 := by decide +kernel
  intro s hs
  exact ⟨(h s hs).1, nld_len (by rw [← len_tl]; exact (h s hs).1), (h s hs).2⟩
theorem nl_ok : TxT 1 1 nlS := ⟨by decide, nld_len (by decide), by decide⟩
def BentV (H H' : Hp) (t : Str) (L m : Nat) (x : V) : Prop := (∃ t', x = .str t' ∧ TxT L m t') ∨ x = .non ∨ x = .int 3 ∨ ∃ b, x = .ref b ∧ H' b = some (.lst [.str t]) ∧ H b = none
theorem rowS_sum (rows : List Str) : (rows.map (·.length)).sum + rows.length = rowS rows := by
  induction rows with
  | nil => rfl
  | cons r rows ih =>
    rw [rowS_cons, ← ih]
    simp only [List.map_cons, List.sum_cons, List.length_cons]
    omega
theorem join_fits {rows : List Str} (h : rowS rows ≤ 4000) : (rows.map (·.length)).sum + rows.length * (Str.ofString "\n").length ≤ 16777216 := by
  have := rowS_sum rows
  have e : (Str.ofString "\n").length = 1 := rfl
  rw [e]
  omega
theorem rowS_sub (a b : Nat) (rows : List Str) : rowS ((rows.drop a).take b) ≤ rowS rows := by
  have h1 := rowS_take a rows
  have h2 := rowS_take b (rows.drop a)
  omega
theorem cut_rows (rows : List Str) (lo hi : Option Int) : ∃ rs : List Str, cutV (rows.map V.str) lo hi = rs.map V.str ∧ (∀ r ∈ rs, r ∈ rows) ∧ rowS rs ≤ rowS rows := by
  refine ⟨(rows.drop (HT.sIx (rows.map V.str).length 0 lo)).take (HT.sIx (rows.map V.str).length (rows.map V.str).length hi - HT.sIx (rows.map V.str).length 0 lo), ?_, fun r hr => List.mem_of_mem_drop (List.mem_of_mem_take hr), rowS_sub _ _ _⟩
  unfold cutV
  rw [List.map_take, List.map_drop]
section
variable {P : Program} {w : World} {K : PySem.W.Frag} {mg : Str → Option Value} {base : Heap}
def spBent (K : PySem.W.Frag) : Sp := fun vs H Q _ => ∃ (j : Addr) (t : Str) (L m : Nat), vs = [.ref j, .str t] ∧ JarAt H j ∧ TxT L m t ∧ L ≤ 700 ∧ m ≤ 80 ∧ ∀ x H', But j H H' → JarAt H' j → BentV H H' t (2 * L + 40) (2 * m + 11) x → Q x H'
theorem sc43 : FnScope ["_law_jar_here", "_law_text", "_law_at", "_law_rows", "_law_sign", "_law_k", "_law_some"] ["_law_jar_here", "_law_text"] (defScope (topS 43)) := ⟨rfl, rfl, rfl, by decide +kernel, rfl, by decide +kernel, by decide +kernel⟩
theorem ok_bent (G : Glb mg) (D : DnE K mg "_law_bent" 43 ["_law_jar_here", "_law_text"]) (A1 : OkF P w K mg base 1 "_law_draw" 33 ["_law_jar_here", "_law_size"] spDraw) (A2 : OkF P w K mg base 2 "_law_pick" 34 ["_law_jar_here", "_law_menu"] (spPick K)) : OkF P w K mg base 3 "_law_bent" 43 ["_law_jar_here", "_law_text"] (spBent K) := by
  obtain ⟨f, fd, D⟩ := D
  obtain ⟨f1, fd1, D1, G1⟩ := A1
  obtain ⟨f2, fd2, D2, G2⟩ := A2
  refine ⟨f, fd, D, D.F.ok sc43 (fun vs H Q E h => ?_) (fun cdv A outer s H vs Q E hr h => ?_)⟩
  · obtain ⟨j, t, L, m, rfl, _⟩ := h
    rfl
  · obtain ⟨j, t, L, m, rfl, hj, ht, hL, hm, k⟩ := h
    have hr1 : Room 1 _ := hr.mono (by decide)
    refine ⟨_, pss_cons (ps_par (i := 2) (j := 3) (by rfl) sc43.nd rfl rfl (by decide) rfl rfl (pa_cons (pe_call G1 hr1 rfl D1.m D1.F.kp D1.b .nil pass0 (pa_cons (pv 0) (pa_cons (pe_op op_add (pe_callB call_len_str rfl G.len bLen (pa_cons (pv 1) pa_nil)) pe_int) pa_nil))) (pa_cons (pe_split (pv 1) pe_str) pa_nil)) (by rfl))
      (pss_cons (ps_set (i := 4) sc43.nd rfl (Or.inl rfl) (pe_call G2 hr rfl D2.m D2.F.kp D2.b .nil pass0 (pa_cons (pv 0) (pa_cons (pe_op op_cat (pe_callTy (call_listS rfl) rfl G.lst bLst (pa_cons pe_str pa_nil)) (pe_lst (pa_cons pe_str (pa_cons pe_str (pa_cons pe_str (pa_cons pe_str pa_nil)))))) pa_nil))))
      (pss_cons (ps_set (i := 5) sc43.nd rfl (Or.inl rfl) (pe_call G1 hr1 rfl D1.m D1.F.kp D1.b .nil pass0 (pa_cons (pv 0) (pa_cons (pe_callB call_len_seq rfl G.len bLen (pa_cons (pv 3) pa_nil)) pa_nil))))
      (pss_cons (ps_set (i := 6) sc43.nd rfl (Or.inl rfl) (pe_lst (pa_cons (pe_op op_add_str (pe_op op_add_str (pe_slice sl_str (pv 1) po_none (po_some (pv 2))) (pv 4)) (pe_slice sl_str (pv 1) (po_some (pv 2)) po_none))
        (pa_cons (pe_op op_add_str (pe_slice sl_str (pv 1) po_none (po_some (pv 2))) (pe_slice sl_str (pv 1) (po_some (pe_op op_add (pv 2) pe_int)) po_none))
        (pa_cons (pe_op op_add_str (pe_op op_add_str (pe_slice sl_str (pv 1) po_none (po_some (pv 2))) (pv 4)) (pe_slice sl_str (pv 1) (po_some (pe_op op_add (pv 2) pe_int)) po_none))
        (pa_cons (pv 1) pa_nil))))))
      (pss_cons (ps_set (i := 6) sc43.nd rfl (Or.inl rfl) (pe_op op_cat (pe_op op_cat (pv 6) (pv 6)) (pe_lst
        (pa_cons (pe_join pe_str (pe_op op_cat (pe_slice sl_list (pv 3) po_none (po_some (pv 5))) (pe_slice sl_list (pv 3) (po_some (pe_op op_add (pv 5) pe_int)) po_none)))
        (pa_cons (pe_join pe_str (pe_op op_cat (pv 3) (pe_slice sl_list (pv 3) (po_some (pv 5)) (po_some (pe_op op_add (pv 5) pe_int)))))
        (pa_cons (pe_join pe_str (pe_revL (pv 3))) pa_nil))))))
      (pss_one (ps_ret (pe_call G2 hr rfl D2.m D2.F.kp D2.b .nil pass0 (pa_cons (pv 0) (pa_cons (pe_op op_cat (pv 6) (pe_lst
        (pa_consN (pen_addS op_add_str (pv 1)) (pat_cons (CwR.PET.of (pe_op op_add_str pe_str (pv 1))) (pat_cons (CwR.PET.of (pe_upper (pv 1))) (pat_cons (CwR.pet_replC (pv 1)) (pat_cons (CwR.PET.of pe_non) (pat_cons (CwR.PET.of pe_int)
        (pat_cons (CwR.PET.of (pe_lst (pa_cons (pv 1) pa_nil))) pat_nil))))))))) pa_nil))))))))), ?_⟩
    have tl3 : t.length ≤ 700 := Nat.le_trans ht.1 hL
    have zl : t.length ≤ sizeLine := big4000 (by omega)
    refine ⟨_, rfl, _, rfl, t, rfl, zl, _, _, rfl, rfl, j, _, rfl, hj, by omega, by omega, fun at_ H1 a0 a1 b1 hj1 => ?_⟩
    refine ⟨_, rfl, ⟨_, rfl⟩, t, _, rfl, rfl, rfl, by rw [sizeLine_eq]; omega, fun r hr_ => ⟨_, _, rfl, ?_⟩⟩
    rw [str_nl]
    have nrj := hj1.ne hr_
    have s2 : Same H1 (upd H1 r (.lst ((Txt.split t nlS).map V.str))) := Same.upd hr_
    have b2 := b1.trans (.of s2 (j := j))
    have hj2 := hj1.same s2
    have hr2 : (upd H1 r (.lst ((Txt.split t nlS).map V.str))) r = some (.lst ((Txt.split t nlS).map V.str)) := upd_same
    generalize upd H1 r (.lst ((Txt.split t nlS).map V.str)) = H2 at *
    have hrows := ht.rows
    have hS := split_S t
    have hne := split_ne t (show (10 : Nat) < 256 by decide)
    generalize Txt.split t nlS = rows at *
    have lrows : rows.length ≤ 701 := by
      have := rowS_sum rows
      omega
    clear s2 hr_ hj1 b1
    -- sign
    refine ⟨_, rfl, _, rfl, by show 10 ≤ sizeLine; exact big4000 (by decide), fun p1 hp1 => ?_⟩
    have s3 : Same H2 (upd H2 p1 (.lst ((Str.ofString "abz019- \n+").cps.toList.map fun c => V.str ⟨#[c]⟩))) := Same.upd hp1
    have hp3 : (upd H2 p1 (.lst ((Str.ofString "abz019- \n+").cps.toList.map fun c => V.str ⟨#[c]⟩))) p1 = some (.lst ((Str.ofString "abz019- \n+").cps.toList.map fun c => V.str ⟨#[c]⟩)) := upd_same
    have b3 := b2.trans (.of s3 (j := j))
    have hj3 := hj2.same s3
    have hr3 := s3 _ _ hr2
    generalize upd H2 p1 (.lst ((Str.ofString "abz019- \n+").cps.toList.map fun c => V.str ⟨#[c]⟩)) = H3 at *
    refine ⟨by show 4 ≤ sizeLine; exact big4000 (by decide), fun p2 hp2 => ?_⟩
    have s4 : Same H3 (upd H3 p2 (.lst [.str (Str.ofString "  "), .str (Str.ofString " - "), .str (Str.ofString "area"), .str (Str.ofString "\narea b a 3")])) := Same.upd hp2
    have hp4 : (upd H3 p2 (.lst [.str (Str.ofString "  "), .str (Str.ofString " - "), .str (Str.ofString "area"), .str (Str.ofString "\narea b a 3")])) p2 = some (.lst [.str (Str.ofString "  "), .str (Str.ofString " - "), .str (Str.ofString "area"), .str (Str.ofString "\narea b a 3")]) := upd_same
    have b4 := b3.trans (.of s4 (j := j))
    have hj4 := hj3.same s4
    have hr4 := s4 _ _ hr3
    have hp34 := s4 _ _ hp3
    generalize upd H3 p2 (.lst [.str (Str.ofString "  "), .str (Str.ofString " - "), .str (Str.ofString "area"), .str (Str.ofString "\narea b a 3")]) = H4 at *
    refine ⟨p1, p2, _, _, rfl, rfl, hp34, hp4, by show 14 ≤ sizeLine; exact big4000 (by decide), fun p3 hp5 => ?_⟩
    have e14 : ((Str.ofString "abz019- \n+").cps.toList.map fun c => V.str ⟨#[c]⟩) ++ [.str (Str.ofString "  "), .str (Str.ofString " - "), .str (Str.ofString "area"), .str (Str.ofString "\narea b a 3")] = signs14.map V.str := by decide +kernel
    rw [e14]
    have s5 : Same H4 (upd H4 p3 (.lst (signs14.map V.str))) := Same.upd hp5
    have hm5 : SqL K (upd H4 p3 (.lst (signs14.map V.str))) p3 (signs14.map V.str) := .of upd_same
    have n3j := hj4.ne hp5
    have b5 := b4.trans (.of s5 (j := j))
    have hj5 := hj4.same s5
    have hr5 := s5 _ _ hr4
    generalize upd H4 p3 (.lst (signs14.map V.str)) = H5 at *
    clear s3 s4 s5 hp1 hp2 hp3 hp4 hp34 hp5 hj2 hj3 hj4 hr2 hr3 hr4 b2 b3 b4 e14
    refine ⟨j, p3, _, rfl, hj5, hm5, n3j, by rw [Ne, List.map_eq_nil_iff]; simp [signs14], by rw [List.length_map]; decide, fun x H6 hx b56 hj6 => ?_⟩
    obtain ⟨sg, hsg, rfl⟩ := List.mem_map.mp hx
    have hsg := signs_ok sg hsg
    have b6 := b5.trans b56
    have hr6 := b56 _ _ hr5 nrj
    clear hx b56 hj5 hr5 b5 hm5
    -- k
    have lr0 : 0 < rows.length := List.length_pos_iff.mpr hne
    refine ⟨_, rfl, _, rfl, r, _, rfl, .inl (.of hr6), j, _, rfl, hj6, by rw [List.length_map]; omega, by rw [List.length_map]; omega, fun kk H7 k0 k1 b67 hj7 => ?_⟩
    have b7 := b6.trans b67
    have hr7 := b67 _ _ hr6 nrj
    clear b67 hj6 hr6 b6
    -- some
    have c0 := ht.cut none (some at_)
    have c1 := ht.cut (some at_) none
    have c2 := ht.cut (some (at_ + 1)) none
    generalize ec0 : cutS t none (some at_) = C0 at c0
    generalize ec1 : cutS t (some at_) none = C1 at c1
    generalize ec2 : cutS t (some (at_ + 1)) none = C2 at c2
    have fits : ∀ {x y : Str} {a b c d : Nat}, TxT a b x → TxT c d y → a + c ≤ 4000 → x.length + y.length ≤ sizeLine := fun hx hy h => big4000 (Nat.le_trans (Nat.add_le_add hx.1 hy.1) h)
    have t1 := (c0.app hsg).app c1
    have t2 := c0.app c2
    have t3 := (c0.app hsg).app c2
    refine ⟨_, rfl, _, rfl, _, rfl, t, rfl, zl, _, rfl, _, _, rfl, rfl, by rw [ec0]; exact fits c0 hsg (by omega), _, rfl, _, rfl, _, rfl, t, rfl, zl, _, _, rfl, rfl, by rw [ec0, ec1]; exact fits (c0.app hsg) c1 (by omega), ?_⟩
    refine ⟨_, rfl, _, rfl, _, rfl, t, rfl, zl, _, rfl, _, rfl, _, _, rfl, rfl, _, rfl, t, rfl, zl, _, _, rfl, rfl, by rw [ec0, ec2]; exact fits c0 c2 (by omega), ?_⟩
    refine ⟨_, rfl, _, rfl, _, rfl, t, rfl, zl, _, rfl, _, _, rfl, rfl, by rw [ec0]; exact fits c0 hsg (by omega), _, rfl, _, rfl, _, _, rfl, rfl, _, rfl, t, rfl, zl, _, _, rfl, rfl, by rw [ec0, ec2]; exact fits (c0.app hsg) c2 (by omega), ?_⟩
    refine ⟨_, rfl, by show 4 ≤ sizeLine; exact big4000 (by decide), fun q1 hq1 => ?_⟩
    rw [ec0, ec1, ec2]
    obtain ⟨ss, ess⟩ : ∃ ss : List Str, ss = [C0 ++ sg ++ C1, C0 ++ C2, C0 ++ sg ++ C2, t] := ⟨_, rfl⟩
    have lss : ss.length = 4 := by rw [ess]; rfl
    have hss : ∀ s ∈ ss, TxT (2 * L + 40) (2 * m + 11) s := by
      intro s hs
      rw [ess] at hs
      simp only [List.mem_cons, List.not_mem_nil, or_false] at hs
      rcases hs with rfl | rfl | rfl | rfl
      · exact t1.mono (by omega) (by omega)
      · exact t2.mono (by omega) (by omega)
      · exact t3.mono (by omega) (by omega)
      · exact ht.mono (by omega) (by omega)
    have em : ([.str (C0 ++ sg ++ C1), .str (C0 ++ C2), .str (C0 ++ sg ++ C2), .str t] : List V) = ss.map V.str := by
      rw [ess]
      rfl
    rw [em]
    clear em ess t1 t2 t3 c0 c1 c2 ec0 ec1 ec2
    have s8 : Same H7 (upd H7 q1 (.lst (ss.map V.str))) := Same.upd hq1
    have hq8 : (upd H7 q1 (.lst (ss.map V.str))) q1 = some (.lst (ss.map V.str)) := upd_same
    have b8 := b7.trans (.of s8 (j := j))
    have hj8 := hj7.same s8
    have hr8 := s8 _ _ hr7
    generalize upd H7 q1 (.lst (ss.map V.str)) = H8 at *
    clear s8 hq1 hj7 hr7 b7
    refine ⟨_, rfl, _, rfl, q1, q1, _, _, rfl, rfl, hq8, hq8, by simp only [List.length_map]; exact big4000 (by omega), fun q2 hq2 => ?_⟩
    have s9 : Same H8 (upd H8 q2 (.lst (ss.map V.str ++ ss.map V.str))) := Same.upd hq2
    have hq9 : (upd H8 q2 (.lst (ss.map V.str ++ ss.map V.str))) q2 = some (.lst (ss.map V.str ++ ss.map V.str)) := upd_same
    have b9 := b8.trans (.of s9 (j := j))
    have hj9 := hj8.same s9
    have hr9 := s9 _ _ hr8
    generalize upd H8 q2 (.lst (ss.map V.str ++ ss.map V.str)) = H9 at *
    clear s9 hq2 hj8 hr8 b8 hq8
    have tj : ∀ rs : List Str, (∀ q ∈ rs, q ∈ rows) → rowS rs ≤ 2 * L + 2 → TxT (2 * L + 40) (2 * m + 11) (Txt.join nlS rs) := fun rs hm hl => (TxT.join (L := 2 * L + 2) (m := m) (fun q hq => hrows q (hm q hq)) hl).mono (by omega) (by omega)
    have htl := ht.1
    have rowlen : ∀ rs : List Str, rowS rs ≤ 2 * L + 2 → rs.length ≤ 1402 := fun rs h => by
      have := rowS_sum rs
      omega
    -- rows[:k] + rows[k + 1:]
    obtain ⟨rs1, e1, m1, l1⟩ := cut_rows rows none (some kk)
    obtain ⟨rs2, e2, m2, l2⟩ := cut_rows rows (some (kk + 1)) none
    obtain ⟨rs3, e3, m3, l3⟩ := cut_rows rows (some kk) (some (kk + 1))
    refine ⟨⟨_, rfl⟩, _, rfl, _, rfl, _, rfl, r, _, rfl, .of hr9, fun u1 hu1 => ?_⟩
    rw [e1]
    have s10 : Same H9 (upd H9 u1 (.lst (rs1.map V.str))) := Same.upd hu1
    have hv1 : (upd H9 u1 (.lst (rs1.map V.str))) u1 = some (.lst (rs1.map V.str)) := upd_same
    have b10 := b9.trans (.of s10 (j := j))
    have hj10 := hj9.same s10
    replace hr9 := s10 _ _ hr9
    replace hq9 := s10 _ _ hq9
    generalize upd H9 u1 (.lst (rs1.map V.str)) = H10 at *
    clear s10 hu1 hj9 b9
    refine ⟨_, rfl, _, rfl, _, _, rfl, rfl, _, rfl, r, _, rfl, .of hr9, fun u2 hu2 => ?_⟩
    rw [e2]
    have s11 : Same H10 (upd H10 u2 (.lst (rs2.map V.str))) := Same.upd hu2
    have hv2 : (upd H10 u2 (.lst (rs2.map V.str))) u2 = some (.lst (rs2.map V.str)) := upd_same
    have b11 := b10.trans (.of s11 (j := j))
    have hj11 := hj10.same s11
    replace hr9 := s11 _ _ hr9
    replace hq9 := s11 _ _ hq9
    replace hv1 := s11 _ _ hv1
    generalize upd H10 u2 (.lst (rs2.map V.str)) = H11 at *
    clear s11 hu2 hj10 b10
    refine ⟨u1, u2, _, _, rfl, rfl, hv1, hv2, by rw [List.length_map, List.length_map]; have := rowlen rs1 (by omega); have := rowlen rs2 (by omega); exact big4000 (by omega), fun u3 hu3 => ?_⟩
    rw [← List.map_append]
    have s12 : Same H11 (upd H11 u3 (.lst ((rs1 ++ rs2).map V.str))) := Same.upd hu3
    have hv3 : (upd H11 u3 (.lst ((rs1 ++ rs2).map V.str))) u3 = some (.lst ((rs1 ++ rs2).map V.str)) := upd_same
    have b12 := b11.trans (.of s12 (j := j))
    have hj12 := hj11.same s12
    replace hr9 := s12 _ _ hr9
    replace hq9 := s12 _ _ hq9
    generalize upd H11 u3 (.lst ((rs1 ++ rs2).map V.str)) = H12 at *
    clear s12 hu3 hj11 b11
    have w1 := tj (rs1 ++ rs2) (fun q hq => (List.mem_append.mp hq).elim (m1 q) (m2 q)) (by rw [rowS_app]; omega)
    refine ⟨_, u3, rs1 ++ rs2, rfl, rfl, .inl (.of hv3), join_fits (by rw [rowS_app]; omega), ?_⟩
    clear hv1 hv2 hv3
    -- rows + rows[k:k + 1]
    refine ⟨⟨_, rfl⟩, _, rfl, _, rfl, _, rfl, _, rfl, _, rfl, _, _, rfl, rfl, _, rfl, r, _, rfl, .of hr9, fun u4 hu4 => ?_⟩
    rw [e3]
    have s13 : Same H12 (upd H12 u4 (.lst (rs3.map V.str))) := Same.upd hu4
    have hv4 : (upd H12 u4 (.lst (rs3.map V.str))) u4 = some (.lst (rs3.map V.str)) := upd_same
    have b13 := b12.trans (.of s13 (j := j))
    have hj13 := hj12.same s13
    replace hr9 := s13 _ _ hr9
    replace hq9 := s13 _ _ hq9
    generalize upd H12 u4 (.lst (rs3.map V.str)) = H13 at *
    clear s13 hu4 hj12 b12
    refine ⟨r, u4, _, _, rfl, rfl, hr9, hv4, by rw [List.length_map, List.length_map]; have := rowlen rs3 (by omega); exact big4000 (by omega), fun u5 hu5 => ?_⟩
    rw [← List.map_append]
    have s14 : Same H13 (upd H13 u5 (.lst ((rows ++ rs3).map V.str))) := Same.upd hu5
    have hv5 : (upd H13 u5 (.lst ((rows ++ rs3).map V.str))) u5 = some (.lst ((rows ++ rs3).map V.str)) := upd_same
    have b14 := b13.trans (.of s14 (j := j))
    have hj14 := hj13.same s14
    replace hr9 := s14 _ _ hr9
    replace hq9 := s14 _ _ hq9
    generalize upd H13 u5 (.lst ((rows ++ rs3).map V.str)) = H14 at *
    clear s14 hu5 hj13 b13
    have w2 := tj (rows ++ rs3) (fun q hq => (List.mem_append.mp hq).elim id (m3 q)) (by rw [rowS_app]; omega)
    refine ⟨_, u5, rows ++ rs3, rfl, rfl, .inl (.of hv5), join_fits (by rw [rowS_app]; omega), ?_⟩
    clear hv4 hv5
    -- rows[::-1]
    refine ⟨⟨_, rfl⟩, _, rfl, r, _, rfl, .of hr9, fun u6 hu6 => ?_⟩
    rw [← List.map_reverse]
    have s15 : Same H14 (upd H14 u6 (.lst (rows.reverse.map V.str))) := Same.upd hu6
    have hv6 : (upd H14 u6 (.lst (rows.reverse.map V.str))) u6 = some (.lst (rows.reverse.map V.str)) := upd_same
    have b15 := b14.trans (.of s15 (j := j))
    have hj15 := hj14.same s15
    replace hr9 := s15 _ _ hr9
    replace hq9 := s15 _ _ hq9
    generalize upd H14 u6 (.lst (rows.reverse.map V.str)) = H15 at *
    clear s15 hu6 hj14 b14
    have w3 := tj rows.reverse (fun q hq => List.mem_reverse.mp hq) (by rw [rowS_rev]; omega)
    refine ⟨_, u6, rows.reverse, rfl, rfl, .inl (.of hv6), join_fits (by rw [rowS_rev]; omega), ?_⟩
    clear hv6
    refine ⟨by show 3 ≤ sizeLine; exact big4000 (by decide), fun q3 hq3 => ?_⟩
    have e5 : ([.str (Txt.join nlS (rs1 ++ rs2)), .str (Txt.join nlS (rows ++ rs3)), .str (Txt.join nlS rows.reverse)] : List V) = ([Txt.join nlS (rs1 ++ rs2), Txt.join nlS (rows ++ rs3), Txt.join nlS rows.reverse] : List Str).map V.str := rfl
    obtain ⟨js, ejs⟩ : ∃ js : List Str, js = [Txt.join nlS (rs1 ++ rs2), Txt.join nlS (rows ++ rs3), Txt.join nlS rows.reverse] := ⟨_, rfl⟩
    rw [← ejs] at e5
    have ljs : js.length = 3 := by rw [ejs]; rfl
    have hjs : ∀ s ∈ js, TxT (2 * L + 40) (2 * m + 11) s := by
      intro s hs
      rw [ejs] at hs
      simp only [List.mem_cons, List.not_mem_nil, or_false] at hs
      rcases hs with rfl | rfl | rfl
      · exact w1
      · exact w2
      · exact w3
    rw [e5]
    clear e5 ejs w1 w2 w3 e1 e2 e3 m1 m2 m3 l1 l2 l3 tj rowlen
    have s16 : Same H15 (upd H15 q3 (.lst (js.map V.str))) := Same.upd hq3
    have hv7 : (upd H15 q3 (.lst (js.map V.str))) q3 = some (.lst (js.map V.str)) := upd_same
    have b16 := b15.trans (.of s16 (j := j))
    have hj16 := hj15.same s16
    replace hq9 := s16 _ _ hq9
    generalize upd H15 q3 (.lst (js.map V.str)) = H16 at *
    clear s16 hq3 hj15 b15
    refine ⟨q2, q3, _, _, rfl, rfl, hq9, hv7, by simp only [List.length_append, List.length_map]; exact big4000 (by omega), fun q4 hq4 => ?_⟩
    rw [← List.map_append, ← List.map_append]
    have s17 : Same H16 (upd H16 q4 (.lst ((ss ++ ss ++ js).map V.str))) := Same.upd hq4
    have hv8 : (upd H16 q4 (.lst ((ss ++ ss ++ js).map V.str))) q4 = some (.lst ((ss ++ ss ++ js).map V.str)) := upd_same
    have b17 := b16.trans (.of s17 (j := j))
    have hj17 := hj16.same s17
    generalize upd H16 q4 (.lst ((ss ++ ss ++ js).map V.str)) = H17 at *
    clear s17 hq4 hj16 b16
    clear hq9 hv7 hr9
    -- the last ones
    have f2 : ∀ {x y : Str} {a b c d : Nat}, TxT a b x → TxT c d y → a + c ≤ 4000 → x.length + y.length ≤ sizeLine := fun hx hy h => big4000 (Nat.le_trans (Nat.add_le_add hx.1 hy.1) h)
    refine ⟨_, rfl, _, rfl, _, rfl, _, _, rfl, rfl, f2 ht nl_ok (by omega), ?_⟩
    refine ⟨_, rfl, _, _, rfl, rfl, f2 nl_ok ht (by omega), ?_⟩
    refine ⟨_, rfl, ⟨_, rfl⟩, t, rfl, rfl, by omega, ?_⟩
    refine ⟨_, rfl, t, rfl, ?_, ?_⟩
    · have : (Str.ofString "row").length = 3 := rfl
      rw [this]
      omega
    refine ⟨_, rfl, by show 1 ≤ sizeLine; exact big4000 (by decide), fun bt hbt => ?_⟩
    have nbtj := hj17.ne hbt
    have hbtH := b17.free hj hbt nbtj
    have s18 : Same H17 (upd H17 bt (.lst [V.str t])) := Same.upd hbt
    have hbt1 : (upd H17 bt (.lst [V.str t])) bt = some (.lst [V.str t]) := upd_same
    have b18 := b17.trans (.of s18 (j := j))
    have hj18 := hj17.same s18
    replace hv8 := s18 _ _ hv8
    generalize upd H17 bt (.lst [V.str t]) = H18 at *
    clear s18 hj17
    clear b17 hbt
    refine ⟨by show 7 ≤ sizeLine; exact big4000 (by decide), fun q5 hq5 => ?_⟩
    have s19 : Same H18 (upd H18 q5 (.lst [V.str (t ++ nlS), .str (nlS ++ t), .str (Txt.upper t), .str (Txt.replace t (Str.ofString "area") (Str.ofString "row")), .non, .int 3, .ref bt])) := Same.upd hq5
    have hv9 : (upd H18 q5 (.lst [V.str (t ++ nlS), .str (nlS ++ t), .str (Txt.upper t), .str (Txt.replace t (Str.ofString "area") (Str.ofString "row")), .non, .int 3, .ref bt])) q5 = some (.lst [V.str (t ++ nlS), .str (nlS ++ t), .str (Txt.upper t), .str (Txt.replace t (Str.ofString "area") (Str.ofString "row")), .non, .int 3, .ref bt]) := upd_same
    have b19 := b18.trans (.of s19 (j := j))
    have hj19 := hj18.same s19
    replace hv8 := s19 _ _ hv8
    replace hbt1 := s19 _ _ hbt1
    generalize upd H18 q5 (.lst [V.str (t ++ nlS), .str (nlS ++ t), .str (Txt.upper t), .str (Txt.replace t (Str.ofString "area") (Str.ofString "row")), .non, .int 3, .ref bt]) = H19 at *
    clear s19 hj18 b18
    refine ⟨q4, q5, _, _, rfl, rfl, hv8, hv9, by simp only [List.length_append, List.length_map, List.length_cons, List.length_nil]; exact big4000 (by omega), fun q6 hq6 => ?_⟩
    have nq6 := hj19.ne hq6
    have s20 : Same H19 (upd H19 q6 (.lst ((ss ++ ss ++ js).map V.str ++ [V.str (t ++ nlS), .str (nlS ++ t), .str (Txt.upper t), .str (Txt.replace t (Str.ofString "area") (Str.ofString "row")), .non, .int 3, .ref bt]))) := Same.upd hq6
    have hv10 : (upd H19 q6 (.lst ((ss ++ ss ++ js).map V.str ++ [V.str (t ++ nlS), .str (nlS ++ t), .str (Txt.upper t), .str (Txt.replace t (Str.ofString "area") (Str.ofString "row")), .non, .int 3, .ref bt]))) q6 = some (.lst ((ss ++ ss ++ js).map V.str ++ [V.str (t ++ nlS), .str (nlS ++ t), .str (Txt.upper t), .str (Txt.replace t (Str.ofString "area") (Str.ofString "row")), .non, .int 3, .ref bt])) := upd_same
    have b20 := b19.trans (.of s20 (j := j))
    have hj20 := hj19.same s20
    replace hbt1 := s20 _ _ hbt1
    generalize upd H19 q6 (.lst ((ss ++ ss ++ js).map V.str ++ [V.str (t ++ nlS), .str (nlS ++ t), .str (Txt.upper t), .str (Txt.replace t (Str.ofString "area") (Str.ofString "row")), .non, .int 3, .ref bt])) = H20 at *
    clear s20 hj19 b19
    refine ⟨j, q6, _, rfl, hj20, .of hv10, nq6, by simp, by simp only [List.length_append, List.length_map, List.length_cons, List.length_nil]; omega, fun x H21 hx b2021 hj21 => ?_⟩
    refine k x H21 (b20.trans b2021) hj21 ?_
    rcases List.mem_append.mp hx with hx | hx
    · obtain ⟨sx, hsx, rfl⟩ := List.mem_map.mp hx
      refine .inl ⟨sx, rfl, ?_⟩
      rcases List.mem_append.mp hsx with z | z
      · rcases List.mem_append.mp z with z | z
        · exact hss sx z
        · exact hss sx z
      · exact hjs sx z
    · simp only [List.mem_cons, List.not_mem_nil, or_false] at hx
      rcases hx with rfl | rfl | rfl | rfl | rfl | rfl | rfl
      · exact .inl ⟨_, rfl, (ht.app nl_ok).mono (by omega) (by omega)⟩
      · exact .inl ⟨_, rfl, (nl_ok.app ht).mono (by omega) (by omega)⟩
      · exact .inl ⟨_, rfl, ht.upper.mono (by omega) (by omega)⟩
      · exact .inl ⟨_, rfl, ht.replace.mono (by omega) (by omega)⟩
      · exact .inr (.inl rfl)
      · exact .inr (.inr (.inl rfl))
      · exact .inr (.inr (.inr ⟨bt, rfl, b2021 _ _ hbt1 nbtj, hbtH⟩))
end
end K3

/-! The law's own defs, 10: heard. -/
namespace K3
open PySem PySem.Spec PyProof.Rows L2 TL
/-- what _law_heard makes of what its act does -/
def TTheard (CT : Addr) : (XK → Hp → VK → Prop) → Hp → VK → Prop := fun tl H Q =>
  tl (fun cls d H' => cls = .ref CT ∧ ∃ dd v, d = some dd ∧ H' dd = some (.xd [(("given" : Str), v)]) ∧ ∀ l, H' l = none → Q (.ref l) (upd H' l (.lst [.str (Str.ofString "text"), v]))) H
    (fun v H1 => ([V.str (Str.ofString "told"), v] : List V).length ≤ sizeLine ∧ ∀ l, H1 l = none → Q (.ref l) (upd H1 l (.lst [.str (Str.ofString "told"), v])))
theorem sc44 : FnScope ["_law_act", "e"] ["_law_act"] (defScope (topS 44)) := ⟨rfl, rfl, rfl, by decide +kernel, rfl, by decide +kernel, by decide +kernel⟩
theorem heard_gives {X : Cx} {g CT c1 c2 c3 : Addr} {cdg : Value} {q : Str} (hmI : X.mg "isinstance" = none) (mT : X.mg "InvalidText" = some (.ref CT)) (m1 : X.mg "WrongValue" = some (.ref c1)) (m2 : X.mg "WrongName" = some (.ref c2)) (m3 : X.mg "NotPossible" = some (.ref c3))
    (hx : PySem.W.exmAny X.K (.ref CT) [.ref c1, .ref c2, .ref c3] = some true) (T : XfC X.K CT) (hno : PySem.W.findIn X.K (.ref CT) "given" = some none) :
    LamX.GivesTo X ["_law_act", "e"] "_law_heard" (defScope (topS 44)) g cdg (defBody (topS 44)) "_law_act" q (TTheard CT) := by
  intro f c' s H Q tl act hc h
  refine ⟨_, pss_one (ps_tryT (X := (cxOf C8.CX0 X.prog X.w X.K X.mg X.base ["_law_act", "e"] "_law_heard" (defScope (topS 44)) g cdg X.A X.stack s H C8.E0).nox) (c1 := .ref c1) (c2 := .ref c2) (c3 := .ref c3) (i := 1)
      (tb := fun W D σ H => ∃ Ech : XK, (∀ cls d σ' H', Ech cls d H' → σ'.length = 2 → W cls d σ' H') ∧ σ[0]? = some (some (.ref f)) ∧ H c' = some (LamX.CodeO c' q) ∧ tl Ech H fun v H1 => ([V.str (Str.ofString "told"), v] : List V).length ≤ sizeLine ∧ ∀ l, H1 l = none → D.rt (.ref l) (upd H1 l (.lst [.str (Str.ofString "told"), v])))
      rfl rfl sc44.nd rfl rfl rfl rfl rfl m1 m2 m3 (fun W pn xe tk _ => ?_)
      (fun a oe cls d pn hz hf => pss_one (ps_ret (pe_ifExp (pt_val (pe_callB (call_isS (C := CT) hz) rfl hmI bIsi (pa_cons (pv 1) (pa_cons (pe_glob (v := .ref CT) rfl mT rfl) pa_nil))))
        (pe_lst (pa_cons pe_str (pa_cons (pe_xf T hno hz hf (pv 1)) pa_nil))) (pe_lst (pa_cons pe_str (pa_cons pe_non pa_nil))))))), ?_⟩
  · refine ⟨fun pins s' σ H' D I h' => ?_⟩
    obtain ⟨Ech, hW, h1, h2, h3⟩ := h'
    have tk2 : Takes ((cxOf C8.CX0 X.prog X.w X.K X.mg X.base ["_law_act", "e"] "_law_heard" (defScope (topS 44)) g cdg X.A X.stack s H C8.E0).tr pn xe) (fun cls d σ H => σ.length = 2 → W cls d σ H) := fun u s2 xx => by
      obtain ⟨a, B, sI, pins2, σ2, H2, cls, d, e, I2, nb, up, sky, na, os, ag, w2⟩ := xx
      exact tk u s2 ⟨a, B, sI, pins2, σ2, H2, cls, d, e, I2, nb, up, sky, na, os, ag, w2 I2.len⟩
    have hp := act _ pn xe Ech ⟨221, 24, 221, 32⟩ ⟨221, 24, 221, 34⟩ tk2 hW
    have hq := pss_one (ps_ret (pos := ⟨221, 8, 221, 35⟩) (pe_lst (pos := ⟨221, 15, 221, 35⟩) (pa_cons (pe_str (x := Str.ofString "told") (j := 0) (pos := ⟨221, 16, 221, 22⟩)) (pa_cons hp pa_nil))))
    exact hq.run pins s' σ H' D I ⟨h1, h2, h3⟩
  · refine ⟨_, fun cls d σ' H' hE hl => ?_, rfl, hc, h⟩
    obtain ⟨rfl, dd, v, rfl, hdd, hQ⟩ := hE
    refine ⟨hx, fun a ha => ?_⟩
    have h1 : (σ'.set 1 (some (V.ref a)))[1]? = some (some (V.ref a)) := List.getElem?_set_self (by omega)
    refine ⟨_, h1, rfl, rfl, _, rfl, iteT ?_⟩
    exact ⟨_, h1, rfl, rfl, dd, _, v, rfl, hdd, by simp [List.lookup], by show 2 ≤ sizeLine; exact big4000 (by decide), hQ⟩
end K3

/-! The law's own defs, 11: shows. -/
namespace K3
open PySem PySem.Spec PyProof.Rows L2 TL
theorem Fun.kb1 {K : PySem.W.Frag} {m qual : Str} {st : Stmt} {f : Addr} {fd : FuncData} {ps ks : List Str} (pm : {α : Type} → List α → List α) (F : Fun K m qual st f fd)
    (h : ∀ (kV doc p : Value) (an : Option Addr) (cdv ct u : Value) (ws : List Value), ws.length = ks.length → bindArgs (PySem.W.fnOf m qual (defArgs st) (defBody st) (defScope st) .none kV doc p an cdv ct) ⟨[u], ks.zip ws⟩ = pure (ps.zip (u :: pm ws)))
    (rel : ∀ {zs : List V} {ws : List Value}, Vals zs ws → Vals (pm zs) (pm ws)) : KB1 K fd ps ks pm := by
  obtain ⟨oc, od, kV, doc, p, an, cdv, ct, osl, rfl, lk, hcd⟩ := F.ex
  exact ⟨fun s u ws _ hl => .of_eq (h kV doc p an cdv ct u ws hl), rel⟩
theorem kb_stretch {K : PySem.W.Frag} {f : Addr} {fd : FuncData} (F : Fun K "stretch" "Areas.stretch" (sAr 6) f fd) : KB1 K fd ["self", "name"] ["name"] (fun l => l) :=
  Fun.kb1 _ F (fun _ _ _ _ _ _ _ ws hl => match ws, hl with | [_], _ => rfl) fun h => h
theorem kb_inner {K : PySem.W.Frag} {f : Addr} {fd : FuncData} (F : Fun K "inner" "Areas.inner" (sAr 7) f fd) : KB1 K fd ["self", "name"] ["name"] (fun l => l) :=
  Fun.kb1 _ F (fun _ _ _ _ _ _ _ ws hl => match ws, hl with | [_], _ => rfl) fun h => h
theorem vals_rev : ∀ {zs : List V} {ws : List Value}, Vals zs ws → Vals zs.reverse ws.reverse
  | _, _, .nil => .nil
  | _, _, .cons h t => by
    rw [List.reverse_cons, List.reverse_cons]
    exact Vals.append (vals_rev t) (.cons h .nil)
theorem kb_changed {K : PySem.W.Frag} {f : Addr} {fd : FuncData} (F : Fun K "changed" "Areas.changed" (sAr 8) f fd) : KB1 K fd ["self", "name", "stretch"] ["stretch", "name"] (fun l => l.reverse) :=
  Fun.kb1 _ F (fun _ _ _ _ _ _ _ ws hl => match ws, hl with | [_, _], _ => rfl) vals_rev
/-- all that the law asks of Areas -/
structure ArB (P : Program) (w : World) (K : PySem.W.Frag) (mg : Str → Option Value) (base : Heap) (C : Addr) : Prop where
  T : ArT K mg C
  lines : PrOk P w K mg base 1 C "lines" 2 (spLines K C)
  names : PrOk P w K mg base 1 C "names" 3 (spNames K C)
  leaves : PrOk P w K mg base 1 C "leaves" 4 (spLeaves K C)
  text : PrOk P w K mg base 4 C "text" 5 (spStr K C)
  stretch : MeOk P w K mg base 4 C "stretch" 6 ["self", "name"] (spStretch K C)
  inner : MeOk P w K mg base 4 C "inner" 7 ["self", "name"] (spInner K C)
  changed : MeOk P w K mg base 8 C "changed" 8 ["self", "name", "stretch"] (spChanged K C)
  len : MeOk P w K mg base 1 C "__len__" 9 ["self"] (spLen K C)
  bool : MeOk P w K mg base 1 C "__bool__" 10 ["self"] (spBool K C)
  str : MeOk P w K mg base 1 C "__str__" 11 ["self"] (spStr K C)
  eq : MeOk P w K mg base 4 C "__eq__" 12 ["self", "other"] (spEq K C)
  ne : PySem.W.findIn K (.ref C) "__ne__" = some (some (.builtin "object.__ne__"))
  mro : PySem.W.mroIn K C (.type "object") = some true
  ca : PySem.W.findIn K (.ref C) "__class__" = some (some (.builtin "object.__class__"))
  cs : PySem.W.specialIn K (.builtin "object.__class__") "__get__" = some (some (.builtin "getset_descriptor.__get__"))
  ct : PySem.W.takesIn K (.builtin "object.__class__") = some true
  kit : ∀ t ∈ ["str", "tuple", "NoneType", "int", "list", "dict"], PySem.W.kitOne K (.type t) (.ref C) = some false
  nf : ∀ t ∈ ["str", "tuple", "NoneType", "int", "list", "dict"], PySem.W.notFirst K C (.type t) = true
theorem ArB.ty {P : Program} {w : World} {K : PySem.W.Frag} {mg : Str → Option Value} {base : Heap} {C : Addr} (B : ArB P w K mg base C) {H : Hp} {a dx : Addr} {fs : List (Str × V)} (e : H a = some (.ins C dx fs)) : TyX K H (.ref a) (.ref C) :=
  .base (.ins e B.T.cl B.ca B.cs B.ct B.mro)
theorem nf_own {K : PySem.W.Frag} {C : Addr} : PySem.W.notFirst K C (.ref C) = true := by
  unfold PySem.W.notFirst
  simp
theorem kit_own {K : PySem.W.Frag} {C : Addr} : PySem.W.kitOne K (.ref C) (.ref C) = some true := by
  unfold PySem.W.kitOne
  simp
/-- x == y, both Areas -/
theorem eq_areas {P : Program} {w : World} {K : PySem.W.Frag} {mg : Str → Option Value} {base : Heap} {C : Addr} (B : ArB P w K mg base C) {H : Hp} {a b : Addr} {ls ms : List Line} {Q : VK} {E : XK} (ha : AreasAt K C H a ls) (hb : AreasAt K C H b ms)
    (q : Q (.bl (decide (pageT ls = pageT ms))) H) : rEqO K C (spEq K C) E (.ref a) (.ref b) H Q := by
  obtain ⟨dx, v, e1, _⟩ := id ha
  obtain ⟨dy, u, e2, _⟩ := id hb
  exact ⟨a, dx, _, .ref C, rfl, e1, B.ty e2, nf_own, a, ls, .ref b, .ref C, true, rfl, ha, B.ty e2, kit_own, fun _ => ⟨b, ms, rfl, hb, q⟩, fun z => Bool.noConfusion z⟩
theorem ne_areas {P : Program} {w : World} {K : PySem.W.Frag} {mg : Str → Option Value} {base : Heap} {C : Addr} (B : ArB P w K mg base C) {H : Hp} {a b : Addr} {ls ms : List Line} {Q : VK} {E : XK} (ha : AreasAt K C H a ls) (hb : AreasAt K C H b ms)
    (q : Q (.bl (!decide (pageT ls = pageT ms))) H) : rNeO K C (spEq K C) E (.ref a) (.ref b) H Q := by
  obtain ⟨dx, v, e1, _⟩ := id ha
  obtain ⟨dy, u, e2, _⟩ := id hb
  exact ⟨a, dx, _, .ref C, rfl, e1, B.ty e2, nf_own, a, ls, .ref b, .ref C, true, rfl, ha, B.ty e2, kit_own, fun _ => ⟨b, ms, rfl, hb, _, rfl, q⟩, fun z => Bool.noConfusion z⟩
def OkG (P : Program) (w : World) (K : PySem.W.Frag) (mg : Str → Option Value) (base : Heap) (k : Nat) (x : Str) (i : Nat) (ps : List Str) (sp : Sp) : Prop := ∃ f fd, Dn K mg x (topS i) ps f fd ∧ FnG P w K mg base k f fd ps sp
theorem show_data {ds : List PyData} {n m : Nat} (h : ∀ d ∈ ds, smallD d = true ∧ d.depth ≤ 38 ∧ Sh m d) (hn : ds.length = n) (hm : n * (m + 2) + 2 ≤ 16777216) : PyData.showable (.list ds) = true ∧ PyData.hasDict (.list ds) = false ∧ PyData.depth (.list ds) ≤ 40 ∧ (PyData.shown (.list ds)).length ≤ sizeLine := by
  have h1 : smallD (.list ds) = true := by
    simp only [smallD]
    exact smallDs_all fun d hd => (h d hd).1
  have h2 := small_show _ h1
  refine ⟨h2.1, h2.2, ?_, ?_⟩
  · simp only [PyData.depth]
    have := depthAll_le (n := 38) fun d hd => (h d hd).2.1
    omega
  · have := sh_list fun d hd => (h d hd).2.2
    unfold Sh at this
    rw [hn] at this
    rw [sizeLine_eq]
    omega
theorem depth_d (ls : List Line) : (linesD ls).depth ≤ 38 := Nat.le_trans (depth_lines ls) (by decide)
theorem depth_s (ws : List Str) : (strsD ws).depth ≤ 38 := Nat.le_trans (depth_strsD ws) (by decide)
theorem leaves_in (ls : List Line) : ∀ w ∈ leavesT ls, w ∈ ls.map (·.1) := fun w hw => by
  obtain ⟨l, hl, rfl⟩ := List.mem_map.mp hw
  exact List.mem_map.mpr ⟨l, (List.mem_filter.mp hl).1, rfl⟩
theorem inner_in (ls : List Line) (x : Str) : ∀ w ∈ innerT ls x, w ∈ ls.map (·.1) := fun w hw => by
  obtain ⟨l, hl, rfl⟩ := List.mem_map.mp hw
  exact List.mem_map.mpr ⟨l, (List.mem_filter.mp hl).1, rfl⟩
theorem leaves_len (ls : List Line) : (leavesT ls).length ≤ ls.length := by
  unfold leavesT
  rw [List.length_map]
  exact List.length_filter_le _ _
theorem inner_len (ls : List Line) (x : Str) : (innerT ls x).length ≤ ls.length := by
  unfold innerT
  rw [List.length_map]
  exact List.length_filter_le _ _
def toldDs (ls : List Line) : List PyData := [linesD ls, strsD (ls.map (·.1)), strsD (leavesT ls), .str (pageT ls), .str (pageT ls), .int (ls.length : Nat)]
theorem show_told {ls : List Line} (h : Good ls) : PyData.showable (.list (toldDs ls)) = true ∧ PyData.hasDict (.list (toldDs ls)) = false ∧ PyData.depth (.list (toldDs ls)) ≤ 40 ∧ (PyData.shown (.list (toldDs ls))).length ≤ sizeLine := by
  have h10 := good_len h
  have hp : Sh 3302 (.str (pageT ls)) := sh_str (n := 330) (page_txt h).2.2 (page_txt h).1
  refine show_data (n := 6) (m := 3302) (fun d hd => ?_) rfl (by decide)
  simp only [toldDs, List.mem_cons, List.not_mem_nil, or_false] at hd
  rcases hd with rfl | rfl | rfl | rfl | rfl | rfl
  · exact ⟨small_lines h, depth_d ls, (sh_lines h).mono (by decide)⟩
  · exact ⟨small_strs _, depth_s _, (sh_strs (n := 10) (tags_small h fun _ q => q) (by rw [List.length_map]; exact h10.2)).mono (by decide)⟩
  · exact ⟨small_strs _, depth_s _, (sh_strs (n := 10) (tags_small h (leaves_in ls)) (Nat.le_trans (leaves_len ls) h10.2)).mono (by decide)⟩
  · exact ⟨by simp [smallD], by simp [PyData.depth], hp⟩
  · exact ⟨by simp [smallD], by simp [PyData.depth], hp⟩
  · exact ⟨by simp only [smallD, decide_eq_true_eq]; omega, by simp [PyData.depth], (sh_int (by omega) (by omega)).mono (by decide)⟩
theorem show_pair {d : PyData} {m : Nat} (h1 : smallD d = true) (h2 : d.depth ≤ 38) (h3 : Sh m d) (hm : m ≤ 4000) : PyData.showable (.list [d, d]) = true ∧ PyData.hasDict (.list [d, d]) = false ∧ PyData.depth (.list [d, d]) ≤ 40 ∧ (PyData.shown (.list [d, d])).length ≤ sizeLine :=
  show_data (n := 2) (m := m) (fun e he => by
    simp only [List.mem_cons, List.not_mem_nil, or_false] at he
    rcases he with rfl | rfl <;> exact ⟨h1, h2, h3⟩) rfl (by omega)
section
variable {P : Program} {w : World} {K : PySem.W.Frag} {mg : Str → Option Value} {base : Heap} {C : Addr}
def spShows (K : PySem.W.Frag) (C : Addr) : Sp := fun vs H Q _ => ∃ (a : Addr) (v : V) (ls : List Line), vs = [.ref a, v] ∧ AreasAt K C H a ls ∧ Dp K H v (linesD ls) ∧ ∀ H', Same H H' → Q (.bl true) H'
def n45 : List Str := ["_law_made", "_law_lines", "_law_tags_here", "_law_page_here", "_law_tag", "_law_own", "_law_told_here", "_law_parent", "_law_span", "_law_due", "_law_line"]
theorem sc45 : FnScope ["_law_made", "_law_lines", "_law_tags_here", "_law_page_here", "_law_tag", "_law_own", "_law_told_here", "_law_parent", "_law_span", "_law_due", "_law_line"] ["_law_made", "_law_lines"] (defScope (topS 45)) := ⟨rfl, rfl, rfl, by decide +kernel, rfl, by decide +kernel, by decide +kernel⟩
theorem ok_shows (G : Glb mg) (D : DnE K mg "_law_shows" 45 ["_law_made", "_law_lines"]) (B : ArB P w K mg base C) (A1 : OkF P w K mg base 2 "_law_page" 38 ["_law_lines"] (spPage K)) :
    OkG P w K mg base 6 "_law_shows" 45 ["_law_made", "_law_lines"] (spShows K C) := by
  obtain ⟨f, fd, D⟩ := D
  obtain ⟨f1, fd1, D1, G1⟩ := A1
  have T := B.T
  obtain ⟨pl, gl, fdl, Dl, Gl⟩ := B.lines
  obtain ⟨pn, gn, fdn, Dn_, Gn⟩ := B.names
  obtain ⟨pv_, gv, fdv, Dv, Gv⟩ := B.leaves
  obtain ⟨px, gx, fdx, Dx, Gx⟩ := B.text
  obtain ⟨gs, fds, Ds, Gs⟩ := B.str
  obtain ⟨ge, fde, De, Ge⟩ := B.len
  obtain ⟨gi, fdi, Di, Gi⟩ := B.inner
  obtain ⟨gt, fdt, Dt, Gt⟩ := B.stretch
  refine ⟨f, fd, D, okG D.F sc45 (fun vs H Q E h => ?_) (fun cdv A outer s H vs Q E hr hG _ _ h => ?_)⟩
  · obtain ⟨a, v, ls, rfl, _⟩ := h
    rfl
  · obtain ⟨a, v, ls, rfl, hA, hv, k⟩ := h
    have hr1 : Room 2 _ := hr.mono (by decide)
    have hr3 : Room 3 _ := hr.mono (by decide)
    have hr4 : Room 4 _ := hr.mono (by decide)
    have N45 : List Str := ["_law_made", "_law_lines", "_law_tags_here", "_law_page_here", "_law_tag", "_law_own", "_law_told_here", "_law_parent", "_law_span", "_law_due", "_law_line"]
    refine ⟨_, pss_cons (ps_par (i := 2) (j := 3) (by rfl) sc45.nd rfl rfl (by decide) rfl rfl
        (pa_cons (pe_callTy call_tuple_of rfl G.tup bTup (pa_cons (pe_lc (own := [("_law_line", 10)]) (g := gName 10) (tt := tYes) rfl sc45.nd (pi_tup (pv 1)) (blkOk_by (N := n45) (sc := defScope (topS 45)) (by decide +kernel))
            (fun _ _ _ _ _ => pg_name (i := 10) sc45.nd rfl (Or.inl rfl)) (fun _ _ _ _ _ => pts_nil) (fun _ _ _ _ _ => pe_ix (r := rIxT K) ix_tup (pv 10) pe_int (fun _ _ => rfl))) pa_nil))
          (pa_cons (pe_call G1 hr1 rfl D1.m D1.F.kp D1.b .nil pass0 (pa_cons (pv 1) pa_nil)) pa_nil)) (by rfl))
      (pss_cons (ps_set (i := 5) sc45.nd rfl (Or.inl rfl) (pe_callTy call_tuple_of rfl G.tup bTup (pa_cons (pe_lc (own := [("_law_tag", 4)]) (g := gName 4)
          (tt := tTest (tOp (rIn K true) (tVar 4) (tLc (iTup K (tVar 1)) (gName 10) tYes (tOp (rIxT K) (tVar 10) (tC (.int 1))) [10]))) (te := tVar 4) rfl sc45.nd (pi_tup (pv 2)) (blkOk_by (N := n45) (sc := defScope (topS 45)) (by decide +kernel))
          (fun _ _ _ _ _ => pg_name (i := 4) sc45.nd rfl (Or.inl rfl))
          (fun _ _ _ _ _ => pts_one (pt_cmpR op_notIn_seq (pv 4) (pe_lc (own := [("_law_line", 10)]) (g := gName 10) (tt := tYes) rfl sc45.nd (pi_tup (pv 1)) (blkOk_by (N := n45) (sc := { kind := .function, names := [(".0", .local), ("_law_tag", .local), ("_law_lines", .cell)], isGenerator := false, isCoroutine := false }) (by decide +kernel))
            (fun _ _ _ _ _ => pg_name (i := 10) sc45.nd rfl (Or.inl rfl)) (fun _ _ _ _ _ => pts_nil) (fun _ _ _ _ _ => pe_ix (r := rIxT K) ix_tup (pv 10) pe_int (fun _ _ => rfl))) (by with_unfolding_all rfl)))
          (fun _ _ _ _ _ => pv 4)) pa_nil)))
      (pss_cons (ps_set (i := 6) sc45.nd rfl (Or.inl rfl) (pe_lst (pa_cons (pe_prop (pv 0) T.cl Dl.1 Gl hr1 Dl.2.2 .nil pass0 rfl) (pa_cons (pe_prop (pv 0) T.cl Dn_.1 Gn hr1 Dn_.2.2 .nil pass0 rfl) (pa_cons (pe_prop (pv 0) T.cl Dv.1 Gv hr1 Dv.2.2 .nil pass0 rfl)
          (pa_cons (pe_prop (pv 0) T.cl Dx.1 Gx hr Dx.2.2 .nil pass0 rfl) (pa_cons (pe_callTy (call_strO (C := C) (E := E0) Ds.1.at_ Ds.1.fn (fnR_of Gs Ds.2.2) hr3 pass0) rfl G.str bStr (pa_cons (pv 0) pa_nil))
          (pa_cons (pe_callB (call_lenO (C := C) (E := E0) De.1.at_ De.1.fn (fnR_of Ge De.2.2) hr1 pass0) rfl G.len bLen (pa_cons (pv 0) pa_nil)) pa_nil))))))))
      (pss_cons (ps_if (pt_cmpR op_ne (pe_callB (call_reprD hG hr.units) rfl G.rep bRep (pa_cons (pv 6) pa_nil))
          (pe_callB (call_reprD hG hr.units) rfl G.rep bRep (pa_cons (pe_lst (pa_cons (pv 1) (pa_cons (pv 2) (pa_cons (pv 5) (pa_cons (pv 3) (pa_cons (pv 3) (pa_cons (pe_callB call_len_seq rfl G.len bLen (pa_cons (pv 1) pa_nil)) pa_nil))))))) pa_nil)) (nomark _)) pss_never pss_nil)
      (pss_cons (ps_for PassesOwn.never rfl (pi_tup (pv 1)) (pg_tup rfl (pgs_cons (pg_name (i := 4) sc45.nd rfl (Or.inr rfl)) (pgs_cons (pg_name (i := 7) sc45.nd rfl (Or.inl rfl)) (pgs_cons (pg_name (i := 8) sc45.nd rfl (Or.inl rfl)) pgs_nil))))
        (pss_cons (ps_set (i := 9) sc45.nd rfl (Or.inl rfl) (pe_callTy call_tuple_of rfl G.tup bTup (pa_cons (pe_lc (own := [("_law_line", 10)]) (g := gName 10) (tt := tTest (tOp rEq (tOp (rIxT K) (tVar 10) (tC (.int 1))) (tVar 4))) rfl sc45.nd (pi_tup (pv 1)) (blkOk_by (N := n45) (sc := defScope (topS 45)) (by decide +kernel))
            (fun _ _ _ _ _ => pg_name (i := 10) sc45.nd rfl (Or.inl rfl)) (fun _ _ _ _ _ => pts_one (pt_cmpR op_eq (pe_ix (r := rIxT K) ix_tup (pv 10) pe_int (fun _ _ => rfl)) (pv 4) (nomark _))) (fun _ _ _ _ _ => pe_ix (r := rIxT K) ix_tup (pv 10) pe_int (fun _ _ => rfl))) pa_nil)))
        (pss_cons (ps_if (pt_cmpR op_ne (pe_callB (call_reprD hG hr.units) rfl G.rep bRep (pa_cons (pe_lst (pa_cons (pe_meth (pv 0) T.cl Di.1 Gi hr4 Di.2.2 .nil pass0 (pa_cons (pv 4) pa_nil)) (pa_cons (pe_methK1 (pv 0) T.cl Di.1 Gi hr4 (kb_inner Di.2.1) pass0 (pk_cons (pv 4) pk_nil)) pa_nil))) pa_nil))
            (pe_callB (call_reprD hG hr.units) rfl G.rep bRep (pa_cons (pe_lst (pa_cons (pv 9) (pa_cons (pv 9) pa_nil))) pa_nil)) (nomark _)) pss_never pss_nil)
        (pss_one (ps_if (pt_cmpR op_ne (pe_callB (call_reprD hG hr.units) rfl G.rep bRep (pa_cons (pe_lst (pa_cons (pe_meth (pv 0) T.cl Dt.1 Gt hr4 Dt.2.2 .nil pass0 (pa_cons (pv 4) pa_nil)) (pa_cons (pe_methK1 (pv 0) T.cl Dt.1 Gt hr4 (kb_stretch Dt.2.1) pass0 (pk_cons (pv 4) pk_nil)) pa_nil))) pa_nil))
            (pe_callB (call_reprD hG hr.units) rfl G.rep bRep (pa_cons (pe_lst (pa_cons (pv 8) (pa_cons (pv 8) pa_nil))) pa_nil)) (nomark _)) pss_never pss_nil)))))
      (pss_one (ps_ret pe_bl)))))), ?_⟩
    have hg : Good ls := hA.choose_spec.choose_spec.2.2
    have h10 := good_len hg
    obtain ⟨va, vs, rfl, hva, hvs⟩ := dp_lines hv
    have lvs : vs.length = ls.length := by rw [dpAll_len hvs, List.length_map]
    refine ⟨_, rfl, va, rfl, ⟨_, hva⟩, fun L hL => ?_⟩
    refine lc_data (K := K) (walk_tup (xs := vs)) (fun i => (ls[i]?).map fun l => PyData.str l.1) hL (by omega) (fun H4 s4 => sqT_same s4 hva) (fun i d e => ?_) (fun i x H4 H5 CC hi s4 y c1 c2 => ?_) (fun H4 ys s4 hys r => ?_)
    · obtain ⟨c, _, rfl⟩ := Option.map_eq_some_iff.mp e
      simp [flatD]
    · obtain ⟨rfl, hx⟩ := y
      obtain ⟨l, hl, hxl⟩ := lines_at (dpAll_same s4 hvs) hx
      obtain ⟨b, wv, rfl, hb, _⟩ := dp_line hxl
      refine ⟨rfl, tyes ?_⟩
      refine ⟨_, rfl, b, _, 0, V.str l.1, rfl, rfl, hb, rfl, c1 _ _ (.str l.1) (Same.refl _) ?_ (.str _)⟩
      rw [hl]
      rfl
    have e : (List.range vs.length).filterMap (fun i => (ls[i]?).map fun l => PyData.str l.1) = (ls.map (·.1)).map PyData.str := by
      rw [lvs, List.map_map]
      exact fm_some (fun l : Line => PyData.str l.1) ls
    rw [e] at r
    have hys' := hys.trans (congrArg (fun z => some (HO.lst z)) (dpAll_strs r))
    refine ⟨L, _, rfl, .inl ⟨.of hys', fun q hq => ?_⟩⟩
    have s5 : Same H4 (upd H4 q (.tup ((ls.map (·.1)).map V.str))) := Same.upd hq
    have hq5 : SqT K (upd H4 q (.tup ((ls.map (·.1)).map V.str))) q ((ls.map (·.1)).map V.str) := .of upd_same
    have s05 := s4.trans s5
    generalize upd H4 q (.tup ((ls.map (·.1)).map V.str)) = H5 at *
    clear r e hys hys' s4 s5 hq hL
    refine ⟨_, rfl, .ref va, ls, rfl, .tup (sqT_same s05 hva) (dpAll_same s05 hvs), hg, fun H6 s56 => ⟨_, _, rfl, ?_⟩⟩
    have s06 := s05.trans s56
    have hq6 := sqT_same s56 hq5
    have hva6 := sqT_same s06 hva
    have hvs6 := dpAll_same s06 hvs
    clear s56 hq5 s05
    -- own
    refine ⟨_, rfl, q, rfl, ⟨_, hq6⟩, fun M hM => ?_⟩
    refine lc_data (K := K) (walk_tup (xs := (ls.map fun l : Line => l.1).map V.str)) (fun i => (ls[i]?).bind fun l => if (!decide (l.1 ∈ ls.map (·.2.1))) = true then some (PyData.str l.1) else none) hM (by rw [List.length_map, List.length_map]; omega) (fun H5 s5 => sqT_same s5 hq6) (fun i d e => ?_) (fun i x H7 H8 CC hi s7 y c1 c2 => ?_) (fun H7 zs s7 hzs r7 => ?_)
    · obtain ⟨c, _, e⟩ := Option.bind_eq_some_iff.mp e
      split at e
      · cases e
        rfl
      · cases e
    · obtain ⟨rfl, hx⟩ := y
      rw [List.getElem?_map, List.getElem?_map] at hx
      obtain ⟨x0, hx0, rfl⟩ := Option.map_eq_some_iff.mp hx
      obtain ⟨l, hl, rfl⟩ := Option.map_eq_some_iff.mp hx0
      refine ⟨rfl, ?_⟩
      have ef : ((ls[i]?).bind fun l => if (!decide (l.1 ∈ ls.map (·.2.1))) = true then some (PyData.str l.1) else none) = if (!decide (l.1 ∈ ls.map (·.2.1))) = true then some (PyData.str l.1) else none := by
        rw [hl]
        rfl
      have hva7 := sqT_same s7 hva6
      have hvs7 := dpAll_same s7 hvs6
      refine ⟨_, rfl, _, rfl, va, rfl, ⟨_, hva7⟩, fun N hN => ?_⟩
      refine lc_data (K := K) (walk_tup (xs := vs)) (fun i => (ls[i]?).map fun l => PyData.str l.2.1) hN (by omega) (fun H4 s4 => sqT_same s4 hva7) (fun i d e => ?_) (fun i x H4 H5 CC hi s4 y c1 c2 => ?_) (fun H9 ys s9 hys r => ?_)
      · obtain ⟨c, _, rfl⟩ := Option.map_eq_some_iff.mp e
        simp [flatD]
      · obtain ⟨rfl, hx⟩ := y
        obtain ⟨l, hl, hxl⟩ := lines_at (dpAll_same s4 hvs7) hx
        obtain ⟨b, wv, rfl, hb, _⟩ := dp_line hxl
        refine ⟨rfl, tyes ?_⟩
        refine ⟨_, rfl, b, _, 1, V.str l.2.1, rfl, rfl, hb, rfl, c1 _ _ (.str l.2.1) (Same.refl _) ?_ (.str _)⟩
        rw [hl]
        rfl
      · have e : (List.range vs.length).filterMap (fun i => (ls[i]?).map fun l => PyData.str l.2.1) = (ls.map (·.2.1)).map PyData.str := by
          rw [lvs, List.map_map]
          exact fm_some (fun l : Line => PyData.str l.2.1) ls
        rw [e] at r
        have hys' := hys.trans (congrArg (fun z => some (HO.lst z)) (dpAll_strs r))
        refine ⟨N, _, rfl, .inl (.of hys'), rfl, strs_flat _, _, rfl, ?_⟩
        show if (!inV (V.str l.1) ((ls.map (·.2.1)).map V.str)) = true then _ else _
        rw [inStr]
        refine ite2 (fun ht => ?_) (fun ht => ?_)
        · refine ⟨_, rfl, c1 _ _ (.str l.1) s9 ?_ (.str _)⟩
          rw [ef, if_pos ht]
        · refine c2 _ s9 ?_
          rw [ef, if_neg ht]
    have e : (List.range ((ls.map (·.1)).map V.str).length).filterMap (fun i => (ls[i]?).bind fun l => if (!decide (l.1 ∈ ls.map (·.2.1))) = true then some (PyData.str l.1) else none) = (leavesT ls).map PyData.str := by
      rw [List.length_map, List.length_map]
      unfold leavesT
      rw [List.map_map]
      exact fm_filter (fun l : Line => !decide (l.1 ∈ ls.map (·.2.1))) (fun l => PyData.str l.1) ls
    rw [e] at r7
    have hzs' := hzs.trans (congrArg (fun z => some (HO.lst z)) (dpAll_strs r7))
    refine ⟨M, _, rfl, .inl ⟨.of hzs', fun o ho => ?_⟩⟩
    have s8 : Same H7 (upd H7 o (.tup ((leavesT ls).map V.str))) := Same.upd ho
    have ho8 : Dp K (upd H7 o (.tup ((leavesT ls).map V.str))) (.ref o) (strsD (leavesT ls)) := dp_strs_of (.of upd_same)
    have s68 := s7.trans s8
    have s08 := s06.trans s68
    have hq8 : Dp K (upd H7 o (.tup ((leavesT ls).map V.str))) (.ref q) (strsD (ls.map (·.1))) := dp_strs_of (sqT_same s68 hq6)
    generalize upd H7 o (.tup ((leavesT ls).map V.str)) = H8 at *
    clear r7 e hzs hzs' s7 s8 ho hM s68 hq6 hva6 hvs6 s06
    -- told
    have hA8 := hA.same s08
    obtain ⟨dx, v8, e8, _⟩ := id hA8
    refine ⟨_, rfl, a, dx, _, rfl, e8, a, ls, rfl, hA8, fun vl hvl => ?_⟩
    refine ⟨_, rfl, a, dx, _, rfl, e8, a, ls, rfl, hA8, fun b bo H9 s9 hb9 hbo => ?_⟩
    have hA9 := hA8.same s9
    have e9 := s9 _ _ e8
    refine ⟨_, rfl, a, dx, _, rfl, e9, a, ls, rfl, hA9, fun vv H10 s10 hvv => ?_⟩
    have hA10 := hA9.same s10
    have e10 := s10 _ _ e9
    refine ⟨_, rfl, a, dx, _, rfl, e10, a, ls, rfl, hA10, ?_⟩
    refine ⟨_, rfl, a, dx, _, rfl, e10, a, ls, rfl, hA10, _, rfl, ?_⟩
    refine ⟨_, rfl, a, dx, _, rfl, e10, a, ls, rfl, hA10, ((ls.length : Nat) : Int), rfl, ⟨by omega, by omega⟩, ?_⟩
    refine ⟨by show 6 ≤ sizeLine; exact big4000 (by decide), fun n hn => ?_⟩
    have s11 : Same H10 (upd H10 n (.lst [vl, .ref b, vv, .str (pageT ls), .str (pageT ls), .int (ls.length : Nat)])) := Same.upd hn
    have hn11 : Dp K (upd H10 n (.lst [vl, .ref b, vv, .str (pageT ls), .str (pageT ls), .int (ls.length : Nat)])) (.ref n) (.list (toldDs ls)) :=
      .lst (.of upd_same) (.cons (dp_same (s9.trans (s10.trans s11)) hvl) (.cons (dp_strs_of (.inl (.inr ⟨bo, s11 _ _ (s10 _ _ hb9)⟩))) (.cons (dp_same s11 hvv) (.cons (.str _) (.cons (.str _) (.cons (.int _) .nil))))))
    have s811 := s9.trans (s10.trans s11)
    have s011 := s08.trans s811
    have hq11 := dp_same s811 hq8
    have ho11 := dp_same s811 ho8
    generalize upd H10 n (.lst [vl, .ref b, vv, .str (pageT ls), .str (pageT ls), .int (ls.length : Nat)]) = H11 at *
    clear hA9 e9 hA10 e10 s9 s10 s11 hb9 hbo hvl hvv hn e8 hA8 hq8 ho8 s811 s08
    obtain ⟨z1, z2, z3, z4⟩ := show_told hg
    refine ⟨_, rfl, n, _, rfl, hn11, z1, z2, z3, z4, ?_⟩
    have hva11 := sqT_same s011 hva
    have hvs11 := dpAll_same s011 hvs
    refine ⟨_, rfl, _, rfl, _, rfl, _, rfl, _, rfl, _, rfl, va, vs, rfl, .inr hva11, by show 6 ≤ sizeLine; exact big4000 (by decide), fun m hm => ?_⟩
    rw [lvs]
    have s12 : Same H11 (upd H11 m (.lst [.ref va, .ref q, .ref o, .str (pageT ls), .str (pageT ls), .int (ls.length : Nat)])) := Same.upd hm
    have hm12 : Dp K (upd H11 m (.lst [.ref va, .ref q, .ref o, .str (pageT ls), .str (pageT ls), .int (ls.length : Nat)])) (.ref m) (.list (toldDs ls)) :=
      .lst (.of upd_same) (.cons (.tup (sqT_same s12 hva11) (dpAll_same s12 hvs11)) (.cons (dp_same s12 hq11) (.cons (dp_same s12 ho11) (.cons (.str _) (.cons (.str _) (.cons (.int _) .nil))))))
    have s012 := s011.trans s12
    generalize upd H11 m (.lst [.ref va, .ref q, .ref o, .str (pageT ls), .str (pageT ls), .int (ls.length : Nat)]) = H12 at *
    clear s12 hva11 hvs11 hn11 hq11 ho11 s011 hm
    refine ⟨m, _, rfl, hm12, z1, z2, z3, z4, rfl, _, rfl, ?_⟩
    rw [strEq, decide_eq_true rfl]
    refine iteF ?_
    clear hm12 z1 z2 z3 z4
    refine ⟨_, rfl, va, rfl, ⟨_, sqT_same s012 hva⟩, ?_⟩
    refine for_it (walk_tup (K := K) (a := va) (xs := vs)) (fun i σ H2 => ∃ (x4 x7 x8 x9 : Option V), σ = [some (.ref a), some (.ref va), some (.ref q), some (.str (pageT ls)), x4, some (.ref o), some (.ref n), x7, x8, x9, none] ∧ Same H H2)
      ⟨none, none, none, none, rfl, s012⟩ (fun i σ H2 _ ⟨_, _, _, _, _, s⟩ => sqT_same s hva) ?_ ?_
    · rintro i x σ H2 H3 hi ⟨x4, x7, x8, x9, rfl, s2⟩ ⟨rfl, hx⟩
      have hvs2 := dpAll_same s2 hvs
      have hva2 := sqT_same s2 hva
      obtain ⟨l, hl, hxl⟩ := lines_at hvs2 hx
      obtain ⟨b, wv, rfl, hb, hw⟩ := dp_line hxl
      have hm := List.mem_of_getElem? hl
      refine ⟨b, _, rfl, hb, rfl, _, _, rfl, _, _, rfl, _, _, rfl, rfl, ?_⟩
      -- due
      refine ⟨_, rfl, va, rfl, ⟨_, hva2⟩, fun M hM => ?_⟩
      refine lc_data (K := K) (walk_tup (xs := vs)) (fun i => (ls[i]?).bind fun m => if decide (m.2.1 = l.1) = true then some (PyData.str m.1) else none) hM (by omega) (fun H5 s5 => sqT_same s5 hva2) (fun i d e => ?_) (fun i y H5 H6 CC hi s5 yy c1 c2 => ?_) (fun H5 zs s5 hzs r5 => ?_)
      · obtain ⟨c, _, e⟩ := Option.bind_eq_some_iff.mp e
        split at e
        · cases e
          rfl
        · cases e
      · obtain ⟨rfl, hy⟩ := yy
        obtain ⟨m, hm, hym⟩ := lines_at (dpAll_same s5 hvs2) hy
        obtain ⟨c, wv, rfl, hc, _⟩ := dp_line hym
        refine ⟨rfl, ?_⟩
        have ef : ((ls[i]?).bind fun m => if decide (m.2.1 = l.1) = true then some (PyData.str m.1) else none) = if decide (m.2.1 = l.1) = true then some (PyData.str m.1) else none := by
          rw [hm]
          rfl
        refine ⟨_, rfl, c, _, 1, V.str m.2.1, rfl, rfl, hc, rfl, _, rfl, rfl, _, rfl, ?_⟩
        rw [strEq]
        refine ite2 (fun ht => ?_) (fun ht => ?_)
        · refine ⟨_, rfl, c, _, 0, V.str m.1, rfl, rfl, hc, rfl, c1 _ _ (.str m.1) (Same.refl _) ?_ (.str _)⟩
          rw [ef, if_pos ht]
        · refine c2 _ (Same.refl _) ?_
          rw [ef, if_neg ht]
      have e : (List.range vs.length).filterMap (fun i => (ls[i]?).bind fun m => if decide (m.2.1 = l.1) = true then some (PyData.str m.1) else none) = (innerT ls l.1).map PyData.str := by
        rw [lvs]
        unfold innerT
        rw [List.map_map]
        exact fm_filter (fun m : Line => decide (m.2.1 = l.1)) (fun m => PyData.str m.1) ls
      rw [e] at r5
      have hzs' := hzs.trans (congrArg (fun z => some (HO.lst z)) (dpAll_strs r5))
      refine ⟨M, _, rfl, .inl ⟨.of hzs', fun u hu => ?_⟩⟩
      have s6 : Same H5 (upd H5 u (.tup ((innerT ls l.1).map V.str))) := Same.upd hu
      have hu6 : Dp K (upd H5 u (.tup ((innerT ls l.1).map V.str))) (.ref u) (strsD (innerT ls l.1)) := dp_strs_of (.of upd_same)
      have s26 := s5.trans s6
      have s06 := s2.trans s26
      have hw6 := dp_same s26 hw
      generalize upd H5 u (.tup ((innerT ls l.1).map V.str)) = H6 at *
      clear r5 e hzs hzs' s5 s6 hu hM s26 hvs2 hva2 hxl hw hb
      -- inner
      have hmem : l.1 ∈ ls.map (·.1) := List.mem_map.mpr ⟨l, hm, rfl⟩
      have hA6 := hA.same s06
      obtain ⟨dx, v6, e6, _⟩ := id hA6
      have ni : (flds v6 (pageT ls)).lookup ("inner" : Str) = none := flds_no _ _ (by decide +kernel) (by decide +kernel)
      have nt : (flds v6 (pageT ls)).lookup ("stretch" : Str) = none := flds_no _ _ (by decide +kernel) (by decide +kernel)
      refine ⟨_, rfl, a, dx, _, rfl, e6, ni, _, rfl, a, ls, l.1, rfl, hA6, hmem, fun v1 H7 s7 d1 => ?_⟩
      have hA7 := hA6.same s7
      have e7 := s7 _ _ e6
      refine ⟨_, rfl, a, dx, _, rfl, e7, ni, _, rfl, rfl, a, ls, l.1, rfl, hA7, hmem, fun v2 H8 s8 d2 => ?_⟩
      refine ⟨by show 2 ≤ sizeLine; exact big4000 (by decide), fun n1 hn1 => ?_⟩
      have s9 : Same H8 (upd H8 n1 (.lst [v1, v2])) := Same.upd hn1
      have hn9 : Dp K (upd H8 n1 (.lst [v1, v2])) (.ref n1) (.list [strsD (innerT ls l.1), strsD (innerT ls l.1)]) := .lst (.of upd_same) (.cons (dp_same (s8.trans s9) d1) (.cons (dp_same s9 d2) .nil))
      have s69 := s7.trans (s8.trans s9)
      have s09 := s06.trans s69
      have hu9 := dp_same s69 hu6
      have hw9 := dp_same s69 hw6
      generalize upd H8 n1 (.lst [v1, v2]) = H9 at *
      clear s7 s8 s9 d1 d2 e6 e7 hA6 hA7 hn1 s69 hu6 hw6 s06
      obtain ⟨z1, z2, z3, z4⟩ := show_pair (small_strs (innerT ls l.1)) (depth_s _) ((sh_strs (n := 10) (tags_small hg (inner_in ls l.1)) (Nat.le_trans (inner_len ls l.1) h10.2))) (by decide)
      refine ⟨n1, _, rfl, hn9, z1, z2, z3, z4, ?_⟩
      refine ⟨_, rfl, _, rfl, by show 2 ≤ sizeLine; exact big4000 (by decide), fun n2 hn2 => ?_⟩
      have s10 : Same H9 (upd H9 n2 (.lst [.ref u, .ref u])) := Same.upd hn2
      have hn10 : Dp K (upd H9 n2 (.lst [.ref u, .ref u])) (.ref n2) (.list [strsD (innerT ls l.1), strsD (innerT ls l.1)]) := .lst (.of upd_same) (.cons (dp_same s10 hu9) (.cons (dp_same s10 hu9) .nil))
      have s010 := s09.trans s10
      have hw10 := dp_same s10 hw9
      generalize upd H9 n2 (.lst [.ref u, .ref u]) = H10 at *
      clear s10 hn2 hw9 hu9 hn9 s09
      refine ⟨n2, _, rfl, hn10, z1, z2, z3, z4, rfl, _, rfl, ?_⟩
      rw [strEq, decide_eq_true rfl]
      refine iteF ?_
      clear hn10 z1 z2 z3 z4
      -- stretch
      have hA10 := hA.same s010
      obtain ⟨dx', v10, e10, _⟩ := id hA10
      replace nt : (flds v10 (pageT ls)).lookup ("stretch" : Str) = none := flds_no _ _ (by decide +kernel) (by decide +kernel)
      refine ⟨_, rfl, a, dx', _, rfl, e10, nt, _, rfl, a, ls, i, l, rfl, hA10, hl, fun v1 H11 s11 d1 => ?_⟩
      have hA11 := hA10.same s11
      have e11 := s11 _ _ e10
      refine ⟨_, rfl, a, dx', _, rfl, e11, nt, _, rfl, rfl, a, ls, i, l, rfl, hA11, hl, fun v2 H12 s12 d2 => ?_⟩
      refine ⟨by show 2 ≤ sizeLine; exact big4000 (by decide), fun n3 hn3 => ?_⟩
      have s13 : Same H12 (upd H12 n3 (.lst [v1, v2])) := Same.upd hn3
      have hn13 : Dp K (upd H12 n3 (.lst [v1, v2])) (.ref n3) (.list [spanD l.2.2, spanD l.2.2]) := .lst (.of upd_same) (.cons (dp_same (s12.trans s13) d1) (.cons (dp_same s13 d2) .nil))
      have s1013 := s11.trans (s12.trans s13)
      have s013 := s010.trans s1013
      have hw13 := dp_same s1013 hw10
      generalize upd H12 n3 (.lst [v1, v2]) = H13 at *
      obtain ⟨z1, z2, z3, z4⟩ := show_pair (small_span (good_span hg l hm)) (by rw [depth_span]; decide) (sh_span (good_span hg l hm)) (by decide)
      refine ⟨n3, _, rfl, hn13, z1, z2, z3, z4, ?_⟩
      refine ⟨_, rfl, _, rfl, by show 2 ≤ sizeLine; exact big4000 (by decide), fun n4 hn4 => ?_⟩
      have s14 : Same H13 (upd H13 n4 (.lst [wv, wv])) := Same.upd hn4
      have hn14 : Dp K (upd H13 n4 (.lst [wv, wv])) (.ref n4) (.list [spanD l.2.2, spanD l.2.2]) := .lst (.of upd_same) (.cons (dp_same s14 hw13) (.cons (dp_same s14 hw13) .nil))
      have s014 := s013.trans s14
      generalize upd H13 n4 (.lst [wv, wv]) = H14 at *
      refine ⟨n4, _, rfl, hn14, z1, z2, z3, z4, rfl, _, rfl, ?_⟩
      rw [strEq, decide_eq_true rfl]
      refine iteF ?_
      exact ⟨_, _, _, _, rfl, s014⟩
    · rintro σ H2 ⟨x4, x7, x8, x9, rfl, s2⟩
      exact k H2 s2
end
end K3

/-! The law's own defs, 12: read_right. -/
namespace K3
open PySem PySem.Spec PyProof.Rows L2 TL
/-- a def whose code object stands at c -/
structure FunC (K : PySem.W.Frag) (x qual : Str) (st : Stmt) (f : Addr) (fd : FuncData) (c : Addr) : Prop where
  ex : ∃ (oc : Value) (od : Option Addr) (kV doc pm : Value) (an : Option Addr) (ct : Value) (osl : Array (Option Value)),
    fd = PySem.W.fnOf x qual (defArgs st) (defBody st) (defScope st) .none kV doc pm an (.ref c) ct ∧ K.lookup f = some ⟨oc, od, .func fd, osl⟩ ∧ PySem.W.codeIn K (.ref c) qual = true
section
variable {P : Program} {w : World} {K : PySem.W.Frag} {mg : Str → Option Value} {base : Heap} {C CL CT : Addr}
theorem okGc {x qual : Str} {st : Stmt} {f c : Addr} {fd : FuncData} {N ps : List Str} {k : Nat} {sp : Sp} (F : FunC K x qual st f fd c) (S : FnScope N ps (defScope st)) (len : ∀ vs H Q E, sp vs H Q E → vs.length = ps.length)
    (hbody : ∀ (A : Around) (outer : List Env) (s : Shared) (H : Hp) (vs : List V) (Q : VK) (E : XK), Room k (A.deeper (envOfC qual (defScope st) s.heap.objs.size f (.ref c))) → (A.deeper (envOfC qual (defScope st) s.heap.objs.size f (.ref c))).guards = some [] → sp vs H Q E →
      ∃ t, PSs (cxOf CX0 P w K mg base N qual (defScope st) f (.ref c) A outer s H E).nox (defBody st) t ∧ t { nx := fun _ H' => Q .non H', rt := Q } (start N vs) H) : FnG P w K mg base (k + 1) f fd ps sp := by
  obtain ⟨oc, od, kV, doc, pm, an, ct, osl, rfl, lk, hcd⟩ := F.ex
  refine ⟨len, fun A outer s H args us vs Q E hr hg e0 hb r h => ?_⟩
  refine LamX.run_ofS (N := N) lk hcd S hr e0 hb r (len _ _ _ _ h) fun hr' => ?_
  obtain ⟨t, ht, q⟩ := hbody A outer s H vs Q E hr' hg h
  exact ⟨t, ht.nox, q⟩
def qL : Str := ("_law_read_right" : Str) ++ ".<locals>." ++ "<lambda>"
/-- told, a classmethod, with what its calls ask -/
structure ToldE (P : Program) (w : World) (K : PySem.W.Frag) (mg : Str → Option Value) (base : Heap) (C CT : Addr) (mc : Value) (p g : Addr) (fd : FuncData) : Prop where
  rd : ClX.CRead K C mc
  cm : ClX.CMet K C mc "told" p g
  F : Fun K "told" "Areas.told" (sAr 1) g fd
  b : Binds K fd ["cls", "text"] []
  ok : FnOk P w K mg base (L2.CX P w) 8 g fd ["cls", "text"] (spTold K C CT)
theorem kb_told {K : PySem.W.Frag} {f : Addr} {fd : FuncData} (F : Fun K "told" "Areas.told" (sAr 1) f fd) : KB1 K fd ["cls", "text"] ["text"] (fun l => l) :=
  Fun.kb1 _ F (fun _ _ _ _ _ _ _ ws hl => match ws, hl with | [_], _ => rfl) fun h => h
theorem fnR_ofL {k : Nat} {g : Addr} {fd : FuncData} {ps : List Str} {sp : Sp} (F : FnOk P w K mg base (L2.CX P w) k g fd ps sp) (b : Binds K fd ps []) : FnR P w K mg base (L2.CX P w) k g sp := (F.raw b .nil).imp fun vs H Q E h => by
  rw [List.append_nil]
  exact h
/-- what the text that was handed in may be -/
def TextV (K : PySem.W.Frag) (H : Hp) (x : V) : Prop := (∃ t, x = .str t ∧ TxtOk t ∧ ∀ c ∈ tl t, c < 128) ∨ x = .non ∨ x = .int 3 ∨ ∃ b t, x = .ref b ∧ H b = some (.lst [.str t]) ∧ t.length ≤ 3000 ∧ ∀ c ∈ tl t, c < 128
theorem TextV.ext {K : PySem.W.Frag} {H H' : Hp} {x : V} (h : TextV K H x) (e : LamX.ExtN H H') : TextV K H' x := by
  rcases h with h | h | h | ⟨b, t, h1, h2, h3⟩
  · exact .inl h
  · exact .inr (.inl h)
  · exact .inr (.inr (.inl h))
  · exact .inr (.inr (.inr ⟨b, t, h1, e _ _ h2 (fun _ z => nomatch z), h3⟩))
def toldV : V → Option (List Line)
  | .str t => toldT t
  | _ => none
theorem reads_of {K : PySem.W.Frag} {H : Hp} {x : V} (h : TextV K H x) : ReadsAs K H x (toldV x) := by
  rcases h with ⟨t, rfl, h, _⟩ | rfl | rfl | ⟨b, t, rfl, h2, h3⟩
  · exact .inl ⟨t, rfl, h, rfl⟩
  · exact .inr ⟨.type "NoneType", .base .non, kit_ty (by decide +kernel), rfl⟩
  · exact .inr ⟨.type "int", .base (.int _), kit_ty (by decide +kernel), rfl⟩
  · exact .inr ⟨.type "list", .base (.lst h2), kit_ty (by decide +kernel), rfl⟩
theorem data_of {K : PySem.W.Frag} {H : Hp} {x : V} (h : TextV K H x) : ∃ d, smallD d = true ∧ d.depth ≤ 30 ∧ Sh 30006 d ∧ ∀ H', LamX.ExtN H H' → Dp K H' x d := by
  rcases h with ⟨t, rfl, h, h2⟩ | rfl | rfl | ⟨b, t, rfl, h2, h3, h4⟩
  · exact ⟨.str t, by simp [smallD], by simp [PyData.depth], (sh_str (n := 3000) h2 h.1).mono (by decide), fun _ _ => .str t⟩
  · exact ⟨.none, by simp [smallD], by simp [PyData.depth], by unfold Sh; decide +kernel, fun _ _ => .non⟩
  · exact ⟨.int 3, by simp [smallD], by simp [PyData.depth], (sh_int (by decide) (by decide)).mono (by decide), fun _ _ => .int 3⟩
  · refine ⟨.list [.str t], by simp [smallD, smallDs], by simp [PyData.depth, PyData.depthAll], (sh_list (m := 30002) fun d hd => ?_).mono (by show 1 * (30002 + 2) + 2 ≤ 30006; omega), fun H' e => .lst (.of (e _ _ h2 (fun _ z => nomatch z))) (.cons (.str t) .nil)⟩
    rw [List.mem_singleton.mp hd]
    exact sh_str h4 h3
theorem tabs_upd {T : List (Addr × Str)} {H : Hp} {n : Addr} {xs : List V} {o : HO} (h : LamX.Tabs T H) (hn : H n = some (.lst xs)) : LamX.Tabs T (upd H n o) := fun p hp => by
  obtain ⟨ps, h1, h2, h3⟩ := h p hp
  refine ⟨ps, ?_, h2, fun pos cv hc => ?_⟩
  · rw [upd_ne fun z => ?_]
    · exact h1
    · rw [z, hn] at h1
      cases h1
  · obtain ⟨c, e, hc⟩ := h3 pos cv hc
    refine ⟨c, e, ?_⟩
    rw [upd_ne fun z => ?_]
    · exact hc
    · rw [z, hn] at hc
      cases hc
theorem ext_upd {H H3 H7 : Hp} {n : Addr} {o : HO} (a : LamX.ExtN H H3) (hn : H3 n = none) (b : LamX.ExtN H3 H7) : LamX.ExtN H (upd H7 n o) := fun c u hc nt => by
  have := a c u hc nt
  rw [upd_ne (ne_of_none this hn)]
  exact b c u this nt
theorem ext_kt {H H' : Hp} (e : LamX.ExtN H H') : KT H H' := fun b o h _ n => e b o h n
theorem ext_of {H H' : Hp} (s : Same H H') : LamX.ExtN H H' := .of s
theorem show_data2 {d : PyData} {m : Nat} (h1 : smallD d = true) (h2 : d.depth ≤ 38) (h3 : Sh m d) (hm : m ≤ 1000000) : PyData.showable (.list [d, d]) = true ∧ PyData.hasDict (.list [d, d]) = false ∧ PyData.depth (.list [d, d]) ≤ 40 ∧ (PyData.shown (.list [d, d])).length ≤ sizeLine :=
  show_data (n := 2) (m := m) (fun e he => by
    simp only [List.mem_cons, List.not_mem_nil, or_false] at he
    rcases he with rfl | rfl <;> exact ⟨h1, h2, h3⟩) rfl (by omega)
def rTupN (K : PySem.W.Frag) : List V → Hp → VK → Prop := fun xs H Q => ∃ p ys, xs = [V.ref p] ∧ ((SqL K H p ys ∧ ∀ (l : Addr), H l = none → Q (V.ref l) (upd H l (HO.tup ys))) ∨ SqT K H p ys ∧ Q (V.ref p) H)
theorem call_tupN {K : PySem.W.Frag} {X : Cx} (h : X.K = K) : CallR X (.type "tuple") (rTupN K) := by
  subst h
  exact call_tuple_of
theorem show_text {d : PyData} (h1 : smallD d = true) (h2 : d.depth ≤ 30) (h3 : Sh 30006 d) : ∀ e, e = PyData.list [.str (Str.ofString "text"), d] → PyData.showable (.list [e, e]) = true ∧ PyData.hasDict (.list [e, e]) = false ∧ PyData.depth (.list [e, e]) ≤ 40 ∧ (PyData.shown (.list [e, e])).length ≤ sizeLine := by
  rintro e rfl
  have s1 : smallD (.list [.str (Str.ofString "text"), d]) = true := by simp [smallD, smallDs, h1]
  have s2 : (PyData.list [.str (Str.ofString "text"), d]).depth ≤ 38 := by
    simp only [PyData.depth]
    have := depthAll_le (n := 30) (ds := [.str (Str.ofString "text"), d]) fun e he => by
      simp only [List.mem_cons, List.not_mem_nil, or_false] at he
      rcases he with rfl | rfl
      · simp [PyData.depth]
      · exact h2
    omega
  have s3 : Sh 60018 (.list [.str (Str.ofString "text"), d]) := Sh.mono (sh_list (m := 30006) (ds := [.str (Str.ofString "text"), d]) fun e he => by
    simp only [List.mem_cons, List.not_mem_nil, or_false] at he
    rcases he with rfl | rfl
    · unfold Sh
      decide +kernel
    · exact h3) (by show 2 * (30006 + 2) + 2 ≤ 60018; omega)
  exact show_data2 s1 s2 s3 (by omega)
def spRead (K : PySem.W.Frag) (C : Addr) (T : List (Addr × Str)) : Sp := fun vs H Q _ => ∃ (j a : Addr) (x : V) (ls : List Line), vs = [.ref j, .ref a, x] ∧ AreasAt K C H a ls ∧ TextV K H x ∧ LamX.Tabs T H ∧ ∀ H', LamX.ExtN H H' → LamX.Tabs T H' → Q (.bl true) H'
def n46 : List Str := ["_law_jar_here", "_law_made", "_law_text", "_law_lines", "_law_got", "_law_each"]
theorem sc46 : FnScope ["_law_jar_here", "_law_made", "_law_text", "_law_lines", "_law_got", "_law_each"] ["_law_jar_here", "_law_made", "_law_text"] (defScope (topS 46)) := ⟨rfl, rfl, rfl, by decide +kernel, rfl, by decide +kernel, by decide +kernel⟩
theorem hx_lam {P : Program} {w : World} {X : Cx} {A : Around} {outer : List Env} {s : Shared} {H : Hp} {E : XK} {scope : Scope} {f c' : Addr} (h1 : X.prog = P) (h2 : X.w = w) : Passes (L2.CX P w) (LamX.lamCx X A outer s H E scope f c') E := by
  subst h1 h2
  exact passes_call (X := LamX.lamCx X A outer s H E scope f c') (takes_of rfl rfl rfl rfl) fun _ _ _ _ h => h
theorem ok_read {f c Pt : Addr} {fd : FuncData} {mc : Value} {pT gT : Addr} {fdT : FuncData} (G : Glb mg) (F : FunC K "_law_read_right" "_law_read_right" (topS 46) f fd c) (B : ArB P w K mg base C) (TE : ToldE P w K mg base C CT mc pT gT fdT)
    (TB : LamX.TabB base mg c Pt) (A1 : OkF P w K mg base 3 "_law_told" 42 ["_law_text"] (spLTold K)) {g : Addr} {fdg : FuncData} (DH : Dn K mg "_law_heard" (topS 44) ["_law_act"] g fdg)
    (hG : ∀ {X : Cx} {q : Str} {cdg : Value}, X.K = K → X.mg = mg → LamX.GivesTo X ["_law_act", "e"] "_law_heard" (defScope (topS 44)) g cdg (defBody (topS 44)) "_law_act" q (TTheard CT))
    (A2 : OkG P w K mg base 6 "_law_shows" 45 ["_law_made", "_law_lines"] (spShows K C)) :
    FnG P w K mg base 12 f fd ["_law_jar_here", "_law_made", "_law_text"] (spRead K C [(Pt, qL)]) := by
  obtain ⟨f1, fd1, D1, G1⟩ := A1
  obtain ⟨f2, fd2, D2, G2⟩ := A2
  obtain ⟨ge, fde, De, Ge⟩ := B.eq
  obtain ⟨px, gx, fdx, Dx, Gx⟩ := B.text
  have T := B.T
  obtain ⟨ocg, odg, kVg, docg, pmg, ang, cdg, ctg, oslg, rfl, lkg, hcg⟩ := DH.F.ex
  refine okGc F sc46 (fun vs H Q E h => ?_) (fun A outer s H vs Q E hr hGd h => ?_)
  · obtain ⟨j, a, x, ls, rfl, _⟩ := h
    rfl
  · obtain ⟨j, a, x, ls, rfl, hA, hx, hT, k⟩ := h
    refine ⟨_, pss_cons (ps_set (i := 3) sc46.nd rfl (Or.inr rfl) (pe_call G1 (hr.mono (by decide)) rfl D1.m D1.F.kp D1.b .nil pass0 (pa_cons (pv 2) pa_nil)))
      (pss_cons (ps_set (i := 4) sc46.nd rfl (Or.inl rfl) (pe_lst (pa_cons (LamX.pe_lamcall (T := [(Pt, qL)]) (k := 8) (t := fun E => ClX.tCMeth C (spTold K C CT) E (tC (.ref C)) (tCons (tVar 2) tNil)) rfl DH.m DH.F.kp lkg hcg DH.b sc44 rfl (Or.inl rfl) (hG rfl rfl) TB rfl
          (List.mem_singleton.mpr rfl) (fun p hp _ => by rw [List.mem_singleton.mp hp]; rfl) (hr.mono (by decide)) (LamX.lamS_by (sc := defScope (topS 46)) (by decide +kernel)) rfl (fun _ _ _ _ _ => rfl)
          (fun A outer s H E f c' hr' => ClX.pe_cmeth (pe_glob (v := .ref C) rfl T.mgC rfl) TE.rd TE.cm (fnR_ofL TE.ok TE.b) hr' (hx_lam rfl rfl) (pa_cons (pv 2) pa_nil))) pa_nil)))
      (pss_cons (ps_expr (pe_bm PySem.F.plainAttrs_list PySem.F.slot_list_append PySem.F.type_list_append mt_append (pv 4) (pa_cons (LamX.pe_lamcall (T := [(Pt, qL)]) (k := 8) (t := fun E => tCMethK1 C 1 (spTold K C CT) (fun {_} l => l) E (tC (.ref C)) (tCons (tVar 2) tNil)) rfl DH.m DH.F.kp lkg hcg DH.b sc44 rfl (Or.inl rfl) (hG rfl rfl) TB rfl
          (List.mem_singleton.mpr rfl) (fun p hp _ => by rw [List.mem_singleton.mp hp]; rfl) (hr.mono (by decide)) (LamX.lamS_by (sc := defScope (topS 46)) (by decide +kernel)) rfl (fun _ _ _ _ _ => rfl)
          (fun A outer s H E f c' hr' => pe_cmethK1 (ks := ["text"]) (pe_glob (v := .ref C) rfl T.mgC rfl) TE.rd TE.cm TE.ok hr' (kb_told TE.F) (hx_lam rfl rfl) (pk_cons (pv 2) pk_nil))) pa_nil)))
      (pss_cons (ps_if (pt_cmpR (op_eqP hr.units) (pv 3) (pe_lst pa_nil) (nomark _)) (pss_one (ps_ret (pe_cmpR op_eq (pe_callB (call_reprD hGd hr.units) rfl G.rep bRep (pa_cons (pv 4) pa_nil))
          (pe_callB (call_reprD hGd hr.units) rfl G.rep bRep (pa_cons (pe_op op_rep (pe_lst (pa_cons (pe_lst (pa_cons pe_str (pa_cons (pv 2) pa_nil))) pa_nil)) pe_int) pa_nil)) (nomark _)))) pss_nil)
      (pss_cons (ps_if (PW.pt (pw_or (pt_cmpR (op_neP hr.units) (pe_lc (own := [("_law_each", 5)]) (g := gName 5) (tt := tYes) rfl sc46.nd (pi_list (pv 4)) (blkOk_by (N := n46) (sc := defScope (topS 46)) (by decide +kernel))
            (fun _ _ _ _ _ => pg_name (i := 5) sc46.nd rfl (Or.inl rfl)) (fun _ _ _ _ _ => pts_nil) (fun _ _ _ _ _ => pe_ix (r := rIxL K) ix_list (pv 5) pe_int (fun _ _ => rfl))) (pe_lst (pa_cons pe_str (pa_cons pe_str pa_nil))) (nomark _))
          (pw_or1 (pt_not (pt_val (pe_callB (cr_all rfl) rfl G.all bAll (pa_cons (pe_lc (own := [("_law_each", 5)]) (g := gName 5) (tt := tYes) rfl sc46.nd (pi_list (pv 4)) (blkOk_by (N := n46) (sc := defScope (topS 46)) (by decide +kernel))
            (fun _ _ _ _ _ => pg_name (i := 5) sc46.nd rfl (Or.inl rfl)) (fun _ _ _ _ _ => pts_nil)
            (fun _ _ _ _ _ => pe_callG (E := E0) G2 (hr.mono (by decide)) hGd rfl D2.m D2.F.kp D2.b (pa_cons (pe_ix (r := rIxL K) ix_list (pv 5) pe_int (fun _ _ => rfl)) (pa_cons (pe_callTy (call_tupN (K := K) rfl) rfl G.tup bTup (pa_cons (pv 3) pa_nil)) pa_nil)))) pa_nil))))))) pss_never pss_nil)
      (pss_one (ps_ret (pe_and (pe_cmpR op_eq (pe_cmpR (op_eqO (C := C) (E := E0) De.1.at_ De.1.fn (fnR_of Ge De.2.2) (hr.mono (by decide)) pass0) (pe_ix ix_list (pe_ix ix_list (pv 4) pe_int (fun _ _ => rfl)) pe_int (fun _ _ => rfl)) (pv 1) (nomark _))
          (pe_cmpR op_eq (pv 2) (pe_prop (pv 1) T.cl Dx.1 Gx (hr.mono (by decide)) Dx.2.2 .nil pass0 rfl) (nomark _)) (nomark _))
        (pe_one (pe_cmpR op_eq (pe_cmpR (op_neO (C := C) (E := E0) De.1.at_ De.1.fn B.ne B.mro (fnR_of Ge De.2.2) (hr.mono (by decide)) pass0) (pe_ix ix_list (pe_ix ix_list (pv 4) pe_int (fun _ _ => rfl)) pe_int (fun _ _ => rfl)) (pv 1) (nomark _))
          (pe_cmpR op_ne (pv 2) (pe_prop (pv 1) T.cl Dx.1 Gx (hr.mono (by decide)) Dx.2.2 .nil pass0 rfl) (nomark _)) (nomark _)))))))))), ?_⟩
    refine ⟨_, rfl, x, toldV x, rfl, reads_of hx, fun b ys H1 s1 hb dys => ?_⟩
    have e1 := ext_of s1
    have hx1 := hx.ext e1
    have hA1 := hA.same s1
    have hT1 := hT.ext s1
    clear s1
    refine ⟨hT1, fun H2 e12 hT2 => ?_⟩
    have e2 := e1.trans e12
    have hx2 := hx1.ext e12
    have hA2 := hA1.kt (ext_kt e12)
    have hb2 := e12 _ _ hb (fun _ z => nomatch z)
    have d2 : DpAll K H2 ys (((toldV x).getD []).map lineD) := dpAll_kt (ext_kt e12) _ _ (flatDs_lines _) dys
    clear e1 e12 hx1 hA1 hT1 hb dys
    refine ⟨rfl, _, rfl, x, toldV x, rfl, reads_of hx2, ?_⟩
    cases ho : toldV x with
    | none =>
      rw [ho] at d2
      have ey : ys = [] := by cases d2; rfl
      subst ey
      refine ⟨(fun ls' z => nomatch z), fun _ d H3 s3 hd => ⟨rfl, d, x, rfl, hd, fun l1 hl1 => ?_⟩⟩
      have s4 : Same H3 (upd H3 l1 (.lst [.str (Str.ofString "text"), x])) := Same.upd hl1
      have h14 : (upd H3 l1 (.lst [.str (Str.ofString "text"), x])) l1 = some (.lst [.str (Str.ofString "text"), x]) := upd_same
      have s24 := s3.trans s4
      generalize upd H3 l1 (.lst [.str (Str.ofString "text"), x]) = H4 at *
      clear s3 s4 hd hl1
      refine ⟨by show 1 ≤ sizeLine; exact big4000 (by decide), fun n hn => ?_⟩
      have nH := e2.trans (ext_of s24)
      have s5 : Same H4 (upd H4 n (.lst [.ref l1])) := Same.upd hn
      have hn5 : (upd H4 n (.lst [.ref l1])) n = some (.lst [.ref l1]) := upd_same
      have s25 := s24.trans s5
      have h15 := s5 _ _ h14
      have n1 : l1 ≠ n := ne_of_none h14 hn
      have nb : b ≠ n := ne_of_none (s24 _ _ hb2) hn
      generalize upd H4 n (.lst [.ref l1]) = H5 at *
      have hT5 := hT2.ext s25
      refine ⟨_, rfl, .inl ⟨rfl, _, .of hn5⟩, ⟨hT5, fun H6 e56 hT6 => ?_⟩⟩
      have hn6 := e56 _ _ hn5 (fun _ z => nomatch z)
      have h16 := e56 _ _ h15 (fun _ z => nomatch z)
      have hb6 := e56 _ _ (s25 _ _ hb2) (fun _ z => nomatch z)
      have x26 := (ext_of s25).trans e56
      have hx6 := hx2.ext x26
      have e46 := (ext_of s5).trans e56
      refine ⟨rfl, _, rfl, rfl, x, toldV x, rfl, reads_of hx6, ?_⟩
      rw [ho]
      refine ⟨(fun ls' z => nomatch z), fun _ d7 H7 s7 hd7 => ⟨rfl, d7, x, rfl, hd7, fun l2 hl2 => ?_⟩⟩
      have s8 : Same H7 (upd H7 l2 (.lst [.str (Str.ofString "text"), x])) := Same.upd hl2
      have h28 : (upd H7 l2 (.lst [.str (Str.ofString "text"), x])) l2 = some (.lst [.str (Str.ofString "text"), x]) := upd_same
      have s68 := s7.trans s8
      generalize upd H7 l2 (.lst [.str (Str.ofString "text"), x]) = H8 at *
      have hn8 := s68 _ _ hn6
      have h18 := s68 _ _ h16
      have hb8 := s68 _ _ hb6
      have hT8 := hT6.ext s68
      have n2 : l2 ≠ n := fun z => by
        rw [z, hn8] at h28
        have := congrArg (fun o : Option HO => match o with | some (.lst xs) => xs.length | _ => 0) h28
        simp at this
      have e48 := e46.trans (ext_of s68)
      refine ⟨n, _, _, rfl, rfl, hn8, by show 1 < sizeLine; rw [sizeLine_eq]; omega, ?_⟩
      have eF : LamX.ExtN H (upd H8 n (.lst ([.ref l1] ++ [.ref l2]))) := ext_upd nH hn e48
      have e2F : LamX.ExtN H2 (upd H8 n (.lst ([.ref l1] ++ [.ref l2]))) := ext_upd (ext_of s24) hn e48
      have hTF := tabs_upd (o := .lst ([.ref l1] ++ [.ref l2])) hT8 hn8
      have hnF : (upd H8 n (.lst ([.ref l1] ++ [.ref l2]))) n = some (.lst [.ref l1, .ref l2]) := upd_same
      have h1F : (upd H8 n (.lst ([.ref l1] ++ [.ref l2]))) l1 = some (.lst [.str (Str.ofString "text"), x]) := by
        rw [upd_ne n1]
        exact h18
      have h2F : (upd H8 n (.lst ([.ref l1] ++ [.ref l2]))) l2 = some (.lst [.str (Str.ofString "text"), x]) := by
        rw [upd_ne n2]
        exact h28
      have hbF : (upd H8 n (.lst ([.ref l1] ++ [.ref l2]))) b = some (.lst []) := by
        rw [upd_ne nb]
        exact hb8
      generalize upd H8 n (.lst ([.ref l1] ++ [.ref l2])) = HF at *
      obtain ⟨dx, z1, z2, z3, hdx⟩ := data_of hx2
      have hdF := hdx HF e2F
      -- == []
      refine ⟨_, rfl, by show 0 ≤ sizeLine; exact big4000 (by decide), fun q hq => ⟨.list [], .list [], .lst (.of ?_) .nil, .lst (.of upd_same) .nil, rfl, rfl, by decide, _, rfl, iteT ?_⟩⟩
      · exact (Same.upd hq) _ _ hbF
      have sG : Same HF (upd HF q (.lst [])) := Same.upd hq
      have eG := eF.trans (ext_of sG)
      have hTG := hTF.ext sG
      have hnG := sG _ _ hnF
      have h1G := sG _ _ h1F
      have h2G := sG _ _ h2F
      have hdG := dp_same sG hdF
      generalize upd HF q (.lst []) = HG at *
      obtain ⟨r1, r2, r3, r4⟩ := show_text z1 z2 z3 _ rfl
      refine ⟨_, rfl, n, _, rfl, .lst (.of hnG) (.cons (.lst (.of h1G) (.cons (.str _) (.cons hdG .nil))) (.cons (.lst (.of h2G) (.cons (.str _) (.cons hdG .nil))) .nil)), r1, r2, r3, r4, ?_⟩
      refine ⟨_, rfl, by show 2 ≤ sizeLine; exact big4000 (by decide), fun u hu => ?_⟩
      have sI : Same HG (upd HG u (.lst [.str (Str.ofString "text"), x])) := Same.upd hu
      have huI : (upd HG u (.lst [.str (Str.ofString "text"), x])) u = some (.lst [.str (Str.ofString "text"), x]) := upd_same
      generalize upd HG u (.lst [.str (Str.ofString "text"), x]) = HI at *
      refine ⟨by show 1 ≤ sizeLine; exact big4000 (by decide), fun v hv => ?_⟩
      have sJ : Same HI (upd HI v (.lst [.ref u])) := Same.upd hv
      have hvJ : (upd HI v (.lst [.ref u])) v = some (.lst [.ref u]) := upd_same
      have huJ := sJ _ _ huI
      generalize upd HI v (.lst [.ref u]) = HJ at *
      refine ⟨v, 2, _, rfl, rfl, hvJ, by decide, by decide, by show 1 * 2 ≤ sizeLine; exact big4000 (by decide), fun y hy => ?_⟩
      have sK : Same HJ (upd HJ y (.lst (List.replicate (2 : Int).toNat [V.ref u]).flatten)) := Same.upd hy
      have hyK : (upd HJ y (.lst (List.replicate (2 : Int).toNat [V.ref u]).flatten)) y = some (.lst [.ref u, .ref u]) := upd_same
      have huK := sK _ _ huJ
      have sGK := sI.trans (sJ.trans sK)
      have hdK := dp_same sGK hdG
      have eK := eG.trans (ext_of sGK)
      have hTK := hTG.ext sGK
      generalize upd HJ y (.lst (List.replicate (2 : Int).toNat [V.ref u]).flatten) = HK at *
      refine ⟨y, _, rfl, .lst (.of hyK) (.cons (.lst (.of huK) (.cons (.str _) (.cons hdK .nil))) (.cons (.lst (.of huK) (.cons (.str _) (.cons hdK .nil))) .nil)), r1, r2, r3, r4, rfl, ?_⟩
      rw [strEq, decide_eq_true rfl]
      exact k HK eK hTK
    | some ls' =>
      obtain ⟨t, rfl⟩ : ∃ t, x = .str t := by
        rcases hx2 with ⟨t, rfl, _⟩ | rfl | rfl | ⟨_, t, rfl, _⟩
        · exact ⟨t, rfl⟩
        · cases ho
        · cases ho
        · cases ho
      rw [ho] at d2
      obtain ⟨hg, hpt, _⟩ := told_some ho
      refine ⟨fun lsx z b1 H3 s3 hB3 => ?_, (fun z => nomatch z)⟩
      obtain rfl := Option.some.inj z
      refine ⟨by show 2 ≤ sizeLine; exact big4000 (by decide), fun l1 hl1 => ?_⟩
      have s4 : Same H3 (upd H3 l1 (.lst [.str (Str.ofString "told"), .ref b1])) := Same.upd hl1
      have h14 : (upd H3 l1 (.lst [.str (Str.ofString "told"), .ref b1])) l1 = some (.lst [.str (Str.ofString "told"), .ref b1]) := upd_same
      have s24 := s3.trans s4
      have hB4 := hB3.same s4
      generalize upd H3 l1 (.lst [.str (Str.ofString "told"), .ref b1]) = H4 at *
      clear s3 s4 hl1 hB3
      refine ⟨by show 1 ≤ sizeLine; exact big4000 (by decide), fun n hn => ?_⟩
      have nH := e2.trans (ext_of s24)
      have s5 : Same H4 (upd H4 n (.lst [.ref l1])) := Same.upd hn
      have hn5 : (upd H4 n (.lst [.ref l1])) n = some (.lst [.ref l1]) := upd_same
      have s25 := s24.trans s5
      have h15 := s5 _ _ h14
      have n1 : l1 ≠ n := ne_of_none h14 hn
      have nb : b ≠ n := ne_of_none (s24 _ _ hb2) hn
      generalize upd H4 n (.lst [.ref l1]) = H5 at *
      have hT5 := hT2.ext s25
      refine ⟨_, rfl, .inl ⟨rfl, _, .of hn5⟩, ⟨hT5, fun H6 e56 hT6 => ?_⟩⟩
      have hn6 := e56 _ _ hn5 (fun _ z => nomatch z)
      have h16 := e56 _ _ h15 (fun _ z => nomatch z)
      have hb6 := e56 _ _ (s25 _ _ hb2) (fun _ z => nomatch z)
      have x26 := (ext_of s25).trans e56
      have hx6 := hx2.ext x26
      have e46 := (ext_of s5).trans e56
      refine ⟨rfl, _, rfl, rfl, .str t, toldV (.str t), rfl, reads_of hx6, ?_⟩
      rw [ho]
      refine ⟨fun lsx z b2 H7 s7 hB7 => ?_, (fun z => nomatch z)⟩
      obtain rfl := Option.some.inj z
      refine ⟨by show 2 ≤ sizeLine; exact big4000 (by decide), fun l2 hl2 => ?_⟩
      have s8 : Same H7 (upd H7 l2 (.lst [.str (Str.ofString "told"), .ref b2])) := Same.upd hl2
      have h28 : (upd H7 l2 (.lst [.str (Str.ofString "told"), .ref b2])) l2 = some (.lst [.str (Str.ofString "told"), .ref b2]) := upd_same
      have s68 := s7.trans s8
      have hB8 := hB7.same s8
      generalize upd H7 l2 (.lst [.str (Str.ofString "told"), .ref b2]) = H8 at *
      have hn8 := s68 _ _ hn6
      have h18 := s68 _ _ h16
      have hb8 := s68 _ _ hb6
      have hT8 := hT6.ext s68
      have n2 : l2 ≠ n := fun z => by
        rw [z, hn8] at h28
        have := congrArg (fun o : Option HO => match o with | some (.lst xs) => xs.length | _ => 0) h28
        simp at this
      have e48 := e46.trans (ext_of s68)
      refine ⟨n, _, _, rfl, rfl, hn8, by show 1 < sizeLine; rw [sizeLine_eq]; omega, ?_⟩
      have eF : LamX.ExtN H (upd H8 n (.lst ([.ref l1] ++ [.ref l2]))) := ext_upd nH hn e48
      have e2F : LamX.ExtN H2 (upd H8 n (.lst ([.ref l1] ++ [.ref l2]))) := ext_upd (ext_of s24) hn e48
      have e4F : LamX.ExtN H4 (upd H8 n (.lst ([.ref l1] ++ [.ref l2]))) := ext_upd (.refl H4) hn e48
      have k8F : KT H8 (upd H8 n (.lst ([.ref l1] ++ [.ref l2]))) := (But.upd (j := n)).kt hn8
      have hTF := tabs_upd (o := .lst ([.ref l1] ++ [.ref l2])) hT8 hn8
      have hnF : (upd H8 n (.lst ([.ref l1] ++ [.ref l2]))) n = some (.lst [.ref l1, .ref l2]) := upd_same
      have h1F : (upd H8 n (.lst ([.ref l1] ++ [.ref l2]))) l1 = some (.lst [.str (Str.ofString "told"), .ref b1]) := by
        rw [upd_ne n1]
        exact h18
      have h2F : (upd H8 n (.lst ([.ref l1] ++ [.ref l2]))) l2 = some (.lst [.str (Str.ofString "told"), .ref b2]) := by
        rw [upd_ne n2]
        exact h28
      have hbF : (upd H8 n (.lst ([.ref l1] ++ [.ref l2]))) b = some (.lst ys) := by
        rw [upd_ne nb]
        exact hb8
      generalize upd H8 n (.lst ([.ref l1] ++ [.ref l2])) = HF at *
      have hAF := hA2.kt (ext_kt e2F)
      have hB1F := hB4.kt (ext_kt e4F)
      have hB2F := hB8.kt k8F
      have dF : DpAll K HF ys (ls'.map lineD) := dpAll_kt (ext_kt e2F) _ _ (flatDs_lines ls') d2
      clear k8F e4F e2F e48 n2 hT8 hb8 h18 hn8 hB8 s68 h28 s8 hl2 hB7 s7 e46 hx6 x26 hb6 h16 hn6 hT6 e56 hT5 nb n1 h15 s25 hn5 s5 nH hn h14 s24 hB4 d2 hb2 hA2 hx2 hT2 e2
      -- == []
      have h10 := good_len hg
      have nbs : noBs (ls'.map lineD) = true := by
        have := noB_lines ls'
        unfold linesD noB at this
        exact this
      have hne : ls'.map lineD ≠ [] := fun z => by
        have := congrArg List.length z
        rw [List.length_map, List.length_nil] at this
        omega
      have hdp : (PyData.list (ls'.map lineD)).depth ≤ 60 := by
        have := depth_lines ls'
        simp only [linesD, PyData.depth] at this ⊢
        omega
      refine ⟨_, rfl, by show 0 ≤ sizeLine; exact big4000 (by decide), fun q hq => ⟨.list (ls'.map lineD), .list [], dp_same (Same.upd hq) (.lst (.of hbF) dF), .lst (.of upd_same) .nil, by unfold noB; exact nbs, rfl, hdp, _, rfl, ?_⟩⟩
      rw [eqNil nbs, decide_eq_false hne]
      refine iteF ?_
      have sG : Same HF (upd HF q (.lst [])) := Same.upd hq
      generalize upd HF q (.lst []) = HG at *
      replace eF := eF.trans (ext_of sG)
      replace hTF := hTF.ext sG
      replace hnF := sG _ _ hnF
      replace h1F := sG _ _ h1F
      replace h2F := sG _ _ h2F
      replace hbF := sG _ _ hbF
      replace hAF := hAF.same sG
      replace hB1F := hB1F.same sG
      replace hB2F := hB2F.same sG
      replace dF := dpAll_same sG dF
      clear sG hq
      have each : ∀ (i : Nat) (v : V), [V.ref l1, V.ref l2][i]? = some v → ∃ l c, v = .ref l ∧ HG l = some (.lst [.str (Str.ofString "told"), .ref c]) ∧ AreasAt K C HG c ls' ∧ i < 2 := fun i v h => by
        match i, h with
        | 0, h => exact ⟨l1, b1, (Option.some.inj h).symm, h1F, hB1F, by decide⟩
        | 1, h => exact ⟨l2, b2, (Option.some.inj h).symm, h2F, hB2F, by decide⟩
      -- told, told
      refine ⟨_, rfl, n, rfl, ⟨_, .of hnF⟩, fun L hL => ?_⟩
      refine lc_data (K := K) (walk_list (xs := [V.ref l1, V.ref l2])) (fun i => if i < 2 then some (PyData.str (Str.ofString "told")) else none) hL (by show 2 ≤ 4000; decide) (fun H2 s2 => s2.seq (.of hnF)) (fun i d e => ?_) (fun i v H2 H3 CC hi s2 y c1 c2 => ?_) (fun H2 zs s2 hzs r => ?_)
      · split at e
        · cases e
          rfl
        · cases e
      · obtain ⟨rfl, hc⟩ := y
        obtain ⟨l, c, rfl, hl, _, hi2⟩ := each i v hc
        exact ⟨rfl, tyes ⟨_, rfl, l, _, 0, _, rfl, rfl, .of (s2 _ _ hl), rfl, c1 _ _ (.str (Str.ofString "told")) (Same.refl _) (if_pos hi2) (.str _)⟩⟩
      have r : DpAll K H2 zs [.str (Str.ofString "told"), .str (Str.ofString "told")] := r
      refine ⟨by show 2 ≤ sizeLine; exact big4000 (by decide), fun m hm => ?_⟩
      have s3 : Same H2 (upd H2 m (.lst [.str (Str.ofString "told"), .str (Str.ofString "told")])) := Same.upd hm
      refine ⟨.list [.str (Str.ofString "told"), .str (Str.ofString "told")], .list [.str (Str.ofString "told"), .str (Str.ofString "told")], dp_same s3 (.lst (.of hzs) r), .lst (.of upd_same) (.cons (.str _) (.cons (.str _) .nil)), rfl, rfl, by decide, _, rfl, ?_⟩
      rw [show PyData.eqv (.list [.str (Str.ofString "told"), .str (Str.ofString "told")]) (.list [.str (Str.ofString "told"), .str (Str.ofString "told")]) = true from (eqv_noB _ _ rfl rfl).mpr rfl]
      refine iteF ?_
      have sM := s2.trans s3
      generalize upd H2 m (.lst [.str (Str.ofString "told"), .str (Str.ofString "told")]) = HM at *
      clear s2 s3 hm r hzs hL
      -- all shows
      refine ⟨_, rfl, n, rfl, ⟨_, .of (sM _ _ hnF)⟩, fun L2 hL2 => ?_⟩
      refine lc_data (K := K) (walk_list (xs := [V.ref l1, V.ref l2])) (fun i => if i < 2 then some (PyData.bool true) else none) hL2 (by show 2 ≤ 4000; decide) (fun H2 s2 => s2.seq (.of (sM _ _ hnF))) (fun i d e => ?_) (fun i v H2 H3 CC hi s2 y c1 c2 => ?_) (fun H2 zs s2 hzs r => ?_)
      · split at e
        · cases e
          rfl
        · cases e
      · obtain ⟨rfl, hc⟩ := y
        obtain ⟨l, c, rfl, hl, hAc, hi2⟩ := each i v hc
        have sX := sM.trans s2
        refine ⟨rfl, tyes ⟨_, rfl, l, _, 1, _, rfl, rfl, .of (sX _ _ hl), rfl, _, rfl, b, ys, rfl, .inl ⟨.of (sX _ _ hbF), fun tp htp => ?_⟩⟩⟩
        have sY : Same _ (upd _ tp (.tup ys)) := Same.upd htp
        refine ⟨c, .ref tp, ls', rfl, (hAc.same sX).same sY, .tup (.of upd_same) (dpAll_same (sX.trans sY) dF), fun H' s' => c1 _ _ (.bool true) (sY.trans s') (if_pos hi2) (.bl _)⟩
      have r : DpAll K H2 zs [.bool true, .bool true] := r
      have hz : zs = [V.bl true, V.bl true] := dpAll_bools (ws := [true, true]) r
      subst hz
      refine ⟨L2, [true, true], rfl, .of hzs, _, rfl, iteF ?_⟩
      have sZ := sM.trans s2
      have hAZ := hAF.same sZ
      obtain ⟨dx, vx, ex, _⟩ := id hAZ
      have fin := k H2 (eF.trans (ext_of sZ)) (hTF.ext sZ)
      refine ⟨_, rfl, n, _, 0, _, rfl, rfl, .of (sZ _ _ hnF), rfl, l1, _, 1, _, rfl, rfl, .of (sZ _ _ h1F), rfl, _, rfl, eq_areas B (hB1F.same sZ) hAZ ?_⟩
      refine ⟨_, rfl, _, rfl, a, dx, _, rfl, ex, a, ls, rfl, hAZ, rfl, rfl, _, rfl, ?_⟩
      rw [strEq, hpt, decide_eq_true rfl]
      refine iteT ?_
      refine ⟨_, rfl, n, _, 1, _, rfl, rfl, .of (sZ _ _ hnF), rfl, l2, _, 1, _, rfl, rfl, .of (sZ _ _ h2F), rfl, _, rfl, ne_areas B (hB2F.same sZ) hAZ ?_⟩
      refine ⟨_, rfl, _, rfl, a, dx, _, rfl, ex, a, ls, rfl, hAZ, rfl, rfl, ?_⟩
      rw [strEq, hpt, decide_eq_true rfl]
      exact fin
end
end K3

/-! The law's own defs, 13: changed_right. -/
namespace K3
open PySem PySem.Spec PyProof.Rows L2 TL
theorem But.ktj {j : Addr} {H H' : Hp} (b : But j H H') (h : JarAt H j) : KT H H' := by
  obtain ⟨_, _, _, e⟩ := h
  exact b.kt e
section
variable {P : Program} {w : World} {K : PySem.W.Frag} {mg : Str → Option Value} {base : Heap} {C CL CT : Addr}
theorem cat_lines {H : Hp} {a b : Addr} {xs ys : List V} {ls ms : List Line} {Q : VK} (ha : SqT K H a xs) (hx : DpAll K H xs (ls.map lineD)) (hb : SqT K H b ys) (hy : DpAll K H ys (ms.map lineD)) (h : xs.length + ys.length ≤ 4000)
    (k : ∀ c zs H', Same H H' → SqT K H' c zs → DpAll K H' zs ((ls ++ ms).map lineD) → zs.length = xs.length + ys.length → Q (.ref c) H') : rCatA K (.ref a) (.ref b) H Q := by
  have hz : DpAll K H (xs ++ ys) ((ls ++ ms).map lineD) := by
    rw [List.map_append]
    exact dpAll_app hx hy
  refine ⟨a, b, xs, ys, rfl, rfl, ha, hb, big4000 h, fun e => ?_, fun _ e => ?_, fun _ _ p hp => ?_⟩
  · subst e
    rw [List.nil_append] at hz
    exact k b ys H (.refl H) hb hz (by simp)
  · subst e
    rw [List.append_nil] at hz
    exact k a xs H (.refl H) ha hz (by simp)
  · exact k p (xs ++ ys) _ (Same.upd hp) (.of upd_same) (dpAll_same (Same.upd hp) hz) List.length_append
def spChR (K : PySem.W.Frag) (C : Addr) : Sp := fun vs H Q _ => ∃ (j a : Addr) (v : V) (ls : List Line), vs = [.ref j, .ref a, v] ∧ JarAt H j ∧ AreasAt K C H a ls ∧ Dp K H v (linesD ls) ∧ ∀ H', But j H H' → JarAt H' j → Q (.bl true) H'
theorem sc47 : FnScope ["_law_jar_here", "_law_made", "_law_lines", "_law_k", "_law_low", "_law_tag", "_law_span", "_law_due", "_law_other"] ["_law_jar_here", "_law_made", "_law_lines"] (defScope (topS 47)) := ⟨rfl, rfl, rfl, by decide +kernel, rfl, by decide +kernel, by decide +kernel⟩
theorem ok_chR (G : Glb mg) (D : DnE K mg "_law_changed_right" 47 ["_law_jar_here", "_law_made", "_law_lines"]) (B : ArB P w K mg base C) (A1 : OkF P w K mg base 1 "_law_draw" 33 ["_law_jar_here", "_law_size"] spDraw) (A2 : OkF P w K mg base 2 "_law_pick" 34 ["_law_jar_here", "_law_menu"] (spPick K))
    (A3 : OkG P w K mg base 6 "_law_shows" 45 ["_law_made", "_law_lines"] (spShows K C)) : OkG P w K mg base 10 "_law_changed_right" 47 ["_law_jar_here", "_law_made", "_law_lines"] (spChR K C) := by
  obtain ⟨f, fd, D⟩ := D
  obtain ⟨f1, fd1, D1, G1⟩ := A1
  obtain ⟨f2, fd2, D2, G2⟩ := A2
  obtain ⟨f3, fd3, D3, G3⟩ := A3
  obtain ⟨ge, fde, De, Ge⟩ := B.eq
  obtain ⟨gc, fdc, Dc, Gc⟩ := B.changed
  have T := B.T
  refine ⟨f, fd, D, okG D.F sc47 (fun vs H Q E h => ?_) (fun cdv A outer s H vs Q E hr hG _ _ h => ?_)⟩
  · obtain ⟨j, a, v, ls, rfl, _⟩ := h
    rfl
  · obtain ⟨j, a, v, ls, rfl, hj, hA, hv, k⟩ := h
    have hr1 : Room 1 _ := hr.mono (by decide)
    have hr2 : Room 2 _ := hr.mono (by decide)
    have hr4 : Room 4 _ := hr.mono (by decide)
    have hr6 : Room 6 _ := hr.mono (by decide)
    have hr8 : Room 8 _ := hr.mono (by decide)
    refine ⟨_, pss_cons (ps_par (i := 3) (j := 4) (by rfl) sc47.nd rfl rfl (by decide) rfl rfl
        (pa_cons (pe_call G1 hr1 rfl D1.m D1.F.kp D1.b .nil pass0 (pa_cons (pv 0) (pa_cons (pe_callB call_len_seq rfl G.len bLen (pa_cons (pv 2) pa_nil)) pa_nil)))
        (pa_cons (pe_call G2 hr2 rfl D2.m D2.F.kp D2.b .nil pass0 (pa_cons (pv 0) (pa_cons (pe_lst (pa_cons (pe_ix ix_tup (pe_ix ix_tup (pe_ix ix_tup (pv 2) pe_int (fun _ _ => rfl)) pe_int (fun _ _ => rfl)) pe_int (fun _ _ => rfl))
          (pa_cons (pe_call G1 hr1 rfl D1.m D1.F.kp D1.b .nil pass0 (pa_cons (pv 0) (pa_cons pe_int pa_nil))) pa_nil))) pa_nil))) pa_nil)) (by rfl))
      (pss_cons (ps_par (i := 5) (j := 6) (by rfl) sc47.nd rfl rfl (by decide) rfl rfl
        (pa_cons (pe_ix ix_tup (pe_ix ix_tup (pv 2) (pv 3) (fun _ _ => rfl)) pe_int (fun _ _ => rfl))
        (pa_cons (pe_tup (pa_cons (pv 4) (pa_cons (pe_call G2 hr2 rfl D2.m D2.F.kp D2.b .nil pass0 (pa_cons (pv 0) (pa_cons (pe_lst (pa_cons (pv 4) (pa_cons pe_int pa_nil))) pa_nil))) pa_nil))) pa_nil)) (by rfl))
      (pss_cons (ps_set (i := 7) sc47.nd rfl (Or.inl rfl) (pe_op op_catA (pe_op op_catA (pe_slice sl_tup (pv 2) po_none (po_some (pv 3)))
          (pe_tup (pa_cons (pe_tup (pa_cons (pv 5) (pa_cons (pe_ix ix_tup (pe_ix ix_tup (pv 2) (pv 3) (fun _ _ => rfl)) pe_int (fun _ _ => rfl)) (pa_cons (pv 6) pa_nil)))) pa_nil)))
          (pe_slice sl_tup (pv 2) (po_some (pe_op op_add (pv 3) pe_int)) po_none)))
      (pss_cons (ps_for PassesOwn.never rfl (pi_list (pe_lst (pa_cons (pe_meth (pv 1) T.cl Dc.1 Gc hr8 Dc.2.2 .nil pass0 (pa_cons (pv 5) (pa_cons (pv 6) pa_nil)))
            (pa_cons (pe_methK1 (pv 1) T.cl Dc.1 Gc hr8 (kb_changed Dc.2.1) pass0 (pk_cons (pv 6) (pk_cons (pv 5) pk_nil))) pa_nil)))) (pg_name (i := 8) sc47.nd rfl (Or.inl rfl))
        (pss_one (ps_if (PW.pt (pw_or (pt_not (pt_val (pe_callG (E := E0) G3 hr6 hG rfl D3.m D3.F.kp D3.b (pa_cons (pv 8) (pa_cons (pv 7) pa_nil)))))
          (pw_or1 (pt_cmpR op_ne (pe_cmpR (op_eqO (C := C) (E := E0) De.1.at_ De.1.fn (fnR_of Ge De.2.2) hr4 pass0) (pv 8) (pv 1) (nomark _)) (pe_cmpR (op_eqP hr.units) (pv 7) (pv 2) (nomark _)) (nomark _))))) pss_never pss_nil)))
      (pss_one (ps_ret (pe_callG (E := E0) G3 hr6 hG rfl D3.m D3.F.kp D3.b (pa_cons (pv 1) (pa_cons (pv 2) pa_nil)))))))), ?_⟩
    have hg : Good ls := hA.choose_spec.choose_spec.2.2
    have h10 := good_len hg
    obtain ⟨va, vs, rfl, hva, hvs⟩ := dp_lines hv
    have lvs : vs.length = ls.length := by rw [dpAll_len hvs, List.length_map]
    refine ⟨_, rfl, _, rfl, va, vs, rfl, .inr hva, j, _, rfl, hj, by omega, by omega, fun kk H1 k0 k1 b1 hj1 => ?_⟩
    obtain ⟨kn, rfl⟩ : ∃ n : Nat, kk = (n : Int) := ⟨kk.toNat, by omega⟩
    have hkn : kn < ls.length := by omega
    have t1 := (b1.ktj hj).tk
    have hva1 := sqT_tk t1 hva
    have hvs1 := dpAll_tk t1 _ _ (flatDs_lines ls) hvs
    -- low
    obtain ⟨l0, hl0⟩ : ∃ l0, ls[0]? = some l0 := ⟨ls[0]'(by omega), List.getElem?_eq_getElem _⟩
    obtain ⟨x0, hx0, hxl0⟩ := dpAll_get hvs1 (show (ls.map lineD)[0]? = some (lineD l0) by rw [List.getElem?_map, hl0]; rfl)
    obtain ⟨c0, w0, rfl, hc0, hw0⟩ := dp_line hxl0
    obtain ⟨d0, rfl, hd0⟩ := dp_span hw0
    have so0 := spanOk_iff.mp (good_span hg l0 (List.mem_of_getElem? hl0))
    refine ⟨_, rfl, _, rfl, va, vs, 0, _, rfl, rfl, hva1, atI_nat (j := 0) hx0, c0, _, 2, _, rfl, rfl, hc0, rfl, d0, _, 0, _, rfl, rfl, hd0, rfl, ?_⟩
    refine ⟨_, rfl, j, 4001, rfl, hj1, by decide, by decide, fun r H2 r0 r1 b12 hj2 => ⟨by show 2 ≤ sizeLine; exact big4000 (by decide), fun m hm => ?_⟩⟩
    have s3 : Same H2 (upd H2 m (.lst [.int l0.2.2.1, .int r])) := Same.upd hm
    have hm3 : SqL K (upd H2 m (.lst [.int l0.2.2.1, .int r])) m [.int l0.2.2.1, .int r] := .of upd_same
    have nmj := hj2.ne hm
    have b3 := (b1.trans b12).trans (.of s3 (j := j))
    have hj3 := hj2.same s3
    generalize upd H2 m (.lst [.int l0.2.2.1, .int r]) = H3 at *
    refine ⟨j, m, _, rfl, hj3, hm3, nmj, by simp, by show 2 < 1073741824; decide, fun x H4 hx b34 hj4 => ⟨_, _, rfl, ?_⟩⟩
    obtain ⟨low, rfl, lo0, lo1⟩ : ∃ low : Int, x = .int low ∧ 0 ≤ low ∧ low ≤ 4000 := by
      simp only [List.mem_cons, List.not_mem_nil, or_false] at hx
      rcases hx with rfl | rfl
      · exact ⟨_, rfl, by omega, by omega⟩
      · exact ⟨r, rfl, by omega, by omega⟩
    have b4 := b3.trans b34
    have t4 := (b4.ktj hj).tk
    have hva4 := sqT_tk t4 hva
    have hvs4 := dpAll_tk t4 _ _ (flatDs_lines ls) hvs
    clear hx b3 b34 hm3 hj3 s3 hm b12 hj2 hd0 hc0 hw0 hxl0 hx0 so0 hva1 hvs1 t1 b1 hj1
    -- tag, span
    obtain ⟨l, hl⟩ : ∃ l, ls[kn]? = some l := ⟨ls[kn]'hkn, List.getElem?_eq_getElem _⟩
    obtain ⟨x1, hx1, hxl1⟩ := dpAll_get hvs4 (show (ls.map lineD)[kn]? = some (lineD l) by rw [List.getElem?_map, hl]; rfl)
    obtain ⟨c1, w1, rfl, hc1, hw1⟩ := dp_line hxl1
    refine ⟨_, rfl, _, rfl, va, vs, _, _, rfl, rfl, hva4, atI_nat hx1, c1, _, 0, _, rfl, rfl, hc1, rfl, ?_⟩
    refine ⟨_, rfl, _, rfl, _, rfl, by show 2 ≤ sizeLine; exact big4000 (by decide), fun m2 hm2 => ?_⟩
    have s5 : Same H4 (upd H4 m2 (.lst [.int low, .int 4000])) := Same.upd hm2
    have hm5 : SqL K (upd H4 m2 (.lst [.int low, .int 4000])) m2 [.int low, .int 4000] := .of upd_same
    have nm2 := hj4.ne hm2
    have b5 := b4.trans (.of s5 (j := j))
    have hj5 := hj4.same s5
    have hc5 := sqT_same s5 hc1
    generalize upd H4 m2 (.lst [.int low, .int 4000]) = H5 at *
    refine ⟨j, m2, _, rfl, hj5, hm5, nm2, by simp, by show 2 < 1073741824; decide, fun x H6 hx b56 hj6 => ?_⟩
    obtain ⟨hi, rfl, hi0, hi1⟩ : ∃ hi : Int, x = .int hi ∧ low ≤ hi ∧ hi ≤ 4000 := by
      simp only [List.mem_cons, List.not_mem_nil, or_false] at hx
      rcases hx with rfl | rfl
      · exact ⟨low, rfl, by omega, by omega⟩
      · exact ⟨4000, rfl, by omega, by omega⟩
    have b6 := b5.trans b56
    have hc6 := sqT_tk (b56.ktj hj5).tk hc5
    clear hx b5 b56 hm5 hj5 s5 hm2 b4 hj4 hc5 hc1 hxl1 hw1 hva4 hvs4 t4 hx1
    refine ⟨by show 2 ≤ sizeLine; exact big4000 (by decide), fun sp hsp => ⟨_, _, rfl, ?_⟩⟩
    have s7 : Same H6 (upd H6 sp (.tup [.int low, .int hi])) := Same.upd hsp
    have hsp7 : Dp K (upd H6 sp (.tup [.int low, .int hi])) (.ref sp) (spanD (low, hi)) := dp_span_of (.of upd_same)
    have b7 := b6.trans (.of s7 (j := j))
    have hj7 := hj6.same s7
    have hc7 := sqT_same s7 hc6
    generalize upd H6 sp (.tup [.int low, .int hi]) = H7 at *
    have so : spanOk (low, hi) = true := spanOk_iff.mpr ⟨lo0, hi0, hi1⟩
    have t7 := (b7.ktj hj).tk
    have hva7 := sqT_tk t7 hva
    have hvs7 := dpAll_tk t7 _ _ (flatDs_lines ls) hvs
    have hA7 := hA.kt (b7.ktj hj)
    clear t7 hc6 s7 hsp b6 hj6
    obtain ⟨x1, hx1, hxl1⟩ := dpAll_get hvs7 (show (ls.map lineD)[kn]? = some (lineD l) by rw [List.getElem?_map, hl]; rfl)
    -- due
    refine ⟨_, rfl, _, rfl, _, rfl, va, vs, rfl, hva7, ?_, fun p hp => ?_⟩
    · rintro ⟨_, q⟩
      rw [HT.sIx_nat] at q
      omega
    rw [cut_lo (by omega)]
    have s8 : Same H7 (upd H7 p (.tup (vs.take kn))) := Same.upd hp
    have hp8 : SqT K (upd H7 p (.tup (vs.take kn))) p (vs.take kn) := .of upd_same
    generalize upd H7 p (.tup (vs.take kn)) = H8 at *
    obtain ⟨c2, w2, rfl, hc2, hw2⟩ := dp_line hxl1
    refine ⟨_, rfl, _, rfl, _, rfl, va, vs, _, _, rfl, rfl, sqT_same s8 hva7, atI_nat hx1, c2, _, 1, _, rfl, rfl, sqT_same s8 hc2, rfl, _, rfl, by show 3 ≤ sizeLine; exact big4000 (by decide), fun q hq => ?_⟩
    have s9 : Same H8 (upd H8 q (.tup [.str l.1, .str l.2.1, .ref sp])) := Same.upd hq
    have hq9 : Dp K (upd H8 q (.tup [.str l.1, .str l.2.1, .ref sp])) (.ref q) (lineD (l.1, l.2.1, low, hi)) := dp_line_of (.of upd_same) (dp_same (s8.trans s9) hsp7)
    have s79 := s8.trans s9
    have hp9 := sqT_same s9 hp8
    generalize upd H8 q (.tup [.str l.1, .str l.2.1, .ref sp]) = H9 at *
    refine ⟨by show 1 ≤ sizeLine; exact big4000 (by decide), fun u hu => ?_⟩
    have s10 : Same H9 (upd H9 u (.tup [.ref q])) := Same.upd hu
    have hu10 : SqT K (upd H9 u (.tup [.ref q])) u [.ref q] := .of upd_same
    have s710 := s79.trans s10
    have hp10 := sqT_same s10 hp9
    have hq10 := dp_same s10 hq9
    generalize upd H9 u (.tup [.ref q]) = H10 at *
    have hvs10 := dpAll_same s710 hvs7
    have lt : (vs.take kn).length = kn := by rw [List.length_take]; omega
    refine cat_lines (ls := ls.take kn) (ms := [(l.1, l.2.1, low, hi)]) hp10 (by rw [List.map_take]; exact dpAll_take kn hvs10) hu10 (.cons hq10 .nil) (by rw [lt]; show kn + 1 ≤ 4000; omega) fun c zs H11 s11 hcz dz lz => ?_
    refine ⟨_, rfl, _, rfl, _, _, rfl, rfl, _, rfl, va, vs, rfl, sqT_same (s710.trans s11) hva7, ?_, fun y hy => ?_⟩
    · rintro ⟨q, _⟩
      have e1 : (kn : Int) + 1 = ((kn + 1 : Nat) : Int) := by omega
      rw [e1, HT.sIx_nat] at q
      omega
    have e1 : (kn : Int) + 1 = ((kn + 1 : Nat) : Int) := by omega
    rw [e1, cut_hi (by omega)]
    have s12 : Same H11 (upd H11 y (.tup (vs.drop (kn + 1)))) := Same.upd hy
    have hy12 : SqT K (upd H11 y (.tup (vs.drop (kn + 1)))) y (vs.drop (kn + 1)) := .of upd_same
    have s712 := s710.trans (s11.trans s12)
    have hc12 := sqT_same s12 hcz
    have dz12 := dpAll_same s12 dz
    generalize upd H11 y (.tup (vs.drop (kn + 1))) = H12 at *
    refine cat_lines (ls := ls.take kn ++ [(l.1, l.2.1, low, hi)]) (ms := ls.drop (kn + 1)) hc12 dz12 hy12 (by rw [List.map_drop]; exact dpAll_drop (kn + 1) (dpAll_same s712 hvs7)) (by rw [lz, lt, List.length_drop]; show kn + 1 + _ ≤ 4000; omega) fun due zs2 H13 s13 hdz ddz _ => ?_
    have es : ls.take kn ++ [(l.1, l.2.1, low, hi)] ++ ls.drop (kn + 1) = ls.set kn (l.1, l.2.1, low, hi) := by
      rw [set_split hl, List.append_assoc]
      rfl
    rw [es] at ddz
    have hdue : Dp K H13 (.ref due) (linesD (ls.set kn (l.1, l.2.1, low, hi))) := .tup hdz ddz
    have hgd := good_set hg hl so
    generalize hds : ls.set kn (l.1, l.2.1, low, hi) = ds at *
    have s713 := s712.trans s13
    clear ddz hdz s13 dz12 hc12 hy12 s12 dz hcz s11 lz hvs10 hq10 hp10 hu10 s10 hq9 hp9 s9 s8 hp8 hc2 hw2 hx1 hxl1 hp hq hu hy es s79 s710 s712
    have hA13 := hA7.same s713
    have hv13 : Dp K H13 (.ref va) (linesD ls) := dp_same s713 (.tup hva7 hvs7)
    have b13 := b7.trans (.of s713 (j := j))
    have hj13 := hj7.same s713
    have hsp13 := dp_same s713 hsp7
    clear hA7 hva7 hvs7 b7 hj7 hsp7 s713 hc7
    obtain ⟨dx, va', e13, _⟩ := id hA13
    have nc : (flds va' (pageT ls)).lookup ("changed" : Str) = none := flds_no _ _ (by decide +kernel) (by decide +kernel)
    refine ⟨_, rfl, a, dx, _, rfl, e13, nc, _, rfl, _, rfl, a, ls, kn, l, .ref sp, (low, hi), rfl, hA13, hl, hsp13, so, fun o1 H14 s14 hO1 => ?_⟩
    rw [hds] at hO1
    refine ⟨_, rfl, a, dx, _, rfl, s14 _ _ e13, nc, _, rfl, _, rfl, rfl, a, ls, kn, l, .ref sp, (low, hi), rfl, hA13.same s14, hl, dp_same s14 hsp13, so, fun o2 H15 s15 hO2 => ?_⟩
    rw [hds] at hO2
    refine ⟨by show 2 ≤ sizeLine; exact big4000 (by decide), fun n hn => ⟨n, rfl, ⟨_, .of upd_same⟩, ?_⟩⟩
    have s16 : Same H15 (upd H15 n (.lst [.ref o1, .ref o2])) := Same.upd hn
    have hn16 : (upd H15 n (.lst [.ref o1, .ref o2])) n = some (.lst [.ref o1, .ref o2]) := upd_same
    generalize upd H15 n (.lst [.ref o1, .ref o2]) = H16 at *
    have hO1 := hO1.same (s15.trans s16)
    have hO2 := hO2.same s16
    have s1316 := s14.trans (s15.trans s16)
    have hA16 := hA13.same s1316
    have hv16 := dp_same s1316 hv13
    have hdue16 := dp_same s1316 hdue
    have b16 := b13.trans (.of s1316 (j := j))
    have hj16 := hj13.same s1316
    clear s14 s15 s16 hn s1316 hA13 hv13 hdue b13 hj13 hsp13 e13 nc
    have each : ∀ (i : Nat) (v : V), [V.ref o1, V.ref o2][i]? = some v → ∃ o, v = .ref o ∧ AreasAt K C H16 o ds := fun i v h => by
      match i, h with
      | 0, h => exact ⟨o1, (Option.some.inj h).symm, hO1⟩
      | 1, h => exact ⟨o2, (Option.some.inj h).symm, hO2⟩
    refine for_it (walk_list (K := K) (a := n) (xs := [V.ref o1, V.ref o2])) (fun i σ H2 => ∃ (x8 : Option V), σ = [some (.ref j), some (.ref a), some (.ref va), some (.int (kn : Nat)), some (.int low), some (.str l.1), some (.ref sp), some (.ref due), x8] ∧ Same H16 H2)
      ⟨none, rfl, .refl H16⟩ (fun i σ H2 _ ⟨_, _, s⟩ => s.seq (.of hn16)) ?_ ?_
    · rintro i x σ H2 H3 hi ⟨x8, rfl, s2⟩ ⟨rfl, hx⟩
      obtain ⟨o, rfl, hO⟩ := each i x hx
      refine ⟨_, rfl, _, rfl, o, .ref due, ds, rfl, hO.same s2, dp_same s2 hdue16, fun H4 s4 => ⟨_, rfl, iteF ?_⟩⟩
      have s24 := s2.trans s4
      have ep : decide (pageT ds = pageT ls) = decide (ds = ls) := by
        by_cases z : ds = ls
        · rw [z, decide_eq_true rfl, decide_eq_true rfl]
        · rw [decide_eq_false z, decide_eq_false fun q => z (page_inj hgd hg q)]
      refine ⟨_, rfl, _, rfl, eq_areas B (hO.same s24) (hA16.same s24) ?_⟩
      refine ⟨_, rfl, _, rfl, linesD ds, linesD ls, dp_same s24 hdue16, dp_same s24 hv16, noB_lines ds, noB_lines ls, Nat.le_trans (depth_lines ds) (by decide), rfl, _, rfl, ?_⟩
      rw [eqB_eq (noB_lines ds) (noB_lines ls) (lines_inj (ls := ds) (ms := ls)), ep, decide_eq_true rfl]
      exact iteF ⟨_, rfl, s24⟩
    · rintro σ H2 ⟨x8, rfl, s2⟩
      exact ⟨_, rfl, _, rfl, a, .ref va, ls, rfl, hA16.same s2, dp_same s2 hv16, fun H3 s3 => k H3 (b16.trans (.of (s2.trans s3) (j := j))) (hj16.same (s2.trans s3))⟩
end
end K3

/-! The law's own defs, 14: right. -/
namespace K3
open PySem PySem.Spec PyProof.Rows L2 TL
section
variable {P : Program} {w : World} {K : PySem.W.Frag} {mg : Str → Option Value} {base : Heap} {C CL CT : Addr}
/-- all stays but what stands at j and the tables -/
def ButX (j : Addr) (H H' : Hp) : Prop := ∀ b o, H b = some o → b ≠ j → (∀ ps, o ≠ .tbl ps) → H' b = some o
def spRight (K : PySem.W.Frag) (T : List (Addr × Str)) : Sp := fun vs H Q _ => ∃ (j : Addr), vs = [.ref j] ∧ JarAt H j ∧ LamX.Tabs T H ∧ ∀ H', ButX j H H' → LamX.Tabs T H' → Q (.bl true) H'
theorem ButX.refl (j : Addr) (H : Hp) : ButX j H H := fun _ _ h _ _ => h
theorem ButX.trans {j : Addr} {H H1 H2 : Hp} (a : ButX j H H1) (b : ButX j H1 H2) : ButX j H H2 := fun c o h n m => b c o (a c o h n m) n m
theorem ButX.of {j : Addr} {H H' : Hp} (a : But j H H') : ButX j H H' := fun b o h n _ => a b o h n
theorem ButX.ext {j : Addr} {H H' : Hp} (a : LamX.ExtN H H') : ButX j H H' := fun b o h _ n => a b o h n
theorem ButX.same {j : Addr} {H H' : Hp} (a : Same H H') : ButX j H H' := fun b o h _ _ => a b o h
theorem ButX.kt {j : Addr} {H H' : Hp} (a : ButX j H H') (hj : JarAt H j) : KT H H' := fun b o h n m => a b o h (fun e => by
  obtain ⟨_, _, _, q⟩ := hj
  rw [e, q] at h
  exact n _ (Option.some.inj h).symm) m
theorem jar_ext {j : Addr} {H H' : Hp} (hj : JarAt H j) (e : LamX.ExtN H H') : JarAt H' j := by
  obtain ⟨x, y, z, q⟩ := hj
  exact ⟨x, y, z, e _ _ q (fun _ z => nomatch z)⟩
theorem tabs_but {T : List (Addr × Str)} {j : Addr} {H H' : Hp} (h : LamX.Tabs T H) (hj : JarAt H j) (b : But j H H') : LamX.Tabs T H' := fun p hp => by
  obtain ⟨_, _, _, q⟩ := hj
  obtain ⟨ps, h1, h2, h3⟩ := h p hp
  refine ⟨ps, b _ _ h1 (fun z => ?_), h2, fun pos cv hc => ?_⟩
  · rw [z, q] at h1
    cases h1
  · obtain ⟨c, e, hc⟩ := h3 pos cv hc
    refine ⟨c, e, b _ _ hc (fun z => ?_)⟩
    rw [z, q] at hc
    cases hc
theorem textV_of {K : PySem.W.Frag} {H H' : Hp} {t : Str} {L m L0 m0 : Nat} {x : V} (h : BentV H H' t L m x) (hL : L ≤ 3000) (hm : m ≤ 640) (ht : TxT L0 m0 t) (h0 : L0 ≤ 3000) : TextV K H' x := by
  rcases h with ⟨t', rfl, h⟩ | h | h | ⟨b, rfl, h, _⟩
  · exact .inl ⟨t', rfl, ⟨Nat.le_trans h.1 hL, nld_mono h.2.1 hm⟩, h.2.2⟩
  · exact .inr (.inl h)
  · exact .inr (.inr (.inl h))
  · exact .inr (.inr (.inr ⟨b, t, rfl, h, Nat.le_trans ht.1 h0, ht.2.2⟩))
theorem eq_other (B : ArB P w K mg base C) {H : Hp} {a : Addr} {ls : List Line} {y : V} {t : String} {Q : VK} {E : XK} (ha : AreasAt K C H a ls) (hy : TyX K H y (.type t)) (ht : t ∈ ["str", "tuple", "NoneType", "int", "list", "dict"]) (q : Q (.bl false) H) : rEqO K C (spEq K C) E (.ref a) y H Q := by
  obtain ⟨dx, v, e1, _⟩ := id ha
  exact ⟨a, dx, _, .type t, rfl, e1, hy, B.nf t ht, a, ls, y, .type t, false, rfl, ha, hy, B.kit t ht, (fun z => Bool.noConfusion z), fun _ => q⟩
theorem ne_other (B : ArB P w K mg base C) {H : Hp} {a : Addr} {ls : List Line} {y : V} {t : String} {Q : VK} {E : XK} (ha : AreasAt K C H a ls) (hy : TyX K H y (.type t)) (ht : t ∈ ["str", "tuple", "NoneType", "int", "list", "dict"]) (q : Q (.bl true) H) : rNeO K C (spEq K C) E (.ref a) y H Q := by
  obtain ⟨dx, v, e1, _⟩ := id ha
  exact ⟨a, dx, _, .type t, rfl, e1, hy, B.nf t ht, a, ls, y, .type t, false, rfl, ha, hy, B.kit t ht, (fun z => Bool.noConfusion z), fun _ => ⟨false, rfl, q⟩⟩
theorem sc48 : FnScope ["_law_jar_here", "_law_turn", "_law_lines", "_law_made", "_law_thing", "_law_again", "_law_text"] ["_law_jar_here"] (defScope (topS 48)) := ⟨rfl, rfl, rfl, by decide +kernel, rfl, by decide +kernel, by decide +kernel⟩
theorem ok_right {mc : Value} {pT gT : Addr} {fdT : FuncData} (G : Glb mg) (D : DnE K mg "_law_right" 48 ["_law_jar_here"]) (B : ArB P w K mg base C) (M : InE P w K mg base C CL) (TE : ToldE P w K mg base C CT mc pT gT fdT) {T : List (Addr × Str)}
    (A1 : OkF P w K mg base 4 "_law_drawn" 36 ["_law_jar_here", "_law_most"] (spDrawn K)) (A2 : OkF P w K mg base 2 "_law_page" 38 ["_law_lines"] (spPage K)) (A3 : OkF P w K mg base 3 "_law_bent" 43 ["_law_jar_here", "_law_text"] (spBent K))
    (A4 : OkG P w K mg base 6 "_law_shows" 45 ["_law_made", "_law_lines"] (spShows K C)) (A5 : OkG P w K mg base 12 "_law_read_right" 46 ["_law_jar_here", "_law_made", "_law_text"] (spRead K C T)) (A6 : OkG P w K mg base 10 "_law_changed_right" 47 ["_law_jar_here", "_law_made", "_law_lines"] (spChR K C)) :
    OkG P w K mg base 13 "_law_right" 48 ["_law_jar_here"] (spRight K T) := by
  obtain ⟨f, fd, D⟩ := D
  obtain ⟨f1, fd1, D1, G1⟩ := A1
  obtain ⟨f2, fd2, D2, G2⟩ := A2
  obtain ⟨f3, fd3, D3, G3⟩ := A3
  obtain ⟨f4, fd4, D4, G4⟩ := A4
  obtain ⟨f5, fd5, D5, G5⟩ := A5
  obtain ⟨f6, fd6, D6, G6⟩ := A6
  obtain ⟨ge, fde, De, Ge⟩ := B.eq
  obtain ⟨gb, fdb, Db, Gb⟩ := B.bool
  obtain ⟨px, gx, fdx, Dx, Gx⟩ := B.text
  obtain ⟨fi, fdi, Mi, bI, kI, GI⟩ := M
  have TT := B.T
  refine ⟨f, fd, D, okG D.F sc48 (fun vs H Q E h => ?_) (fun cdv A outer s H vs Q E hr hG _ _ h => ?_)⟩
  · obtain ⟨j, rfl, _⟩ := h
    rfl
  · obtain ⟨j, rfl, hj, hT, k⟩ := h
    have hr1 : Room 1 _ := hr.mono (by decide)
    have hr2 : Room 2 _ := hr.mono (by decide)
    have hr3 : Room 3 _ := hr.mono (by decide)
    have hr4 : Room 4 _ := hr.mono (by decide)
    have hr5 : Room 5 _ := hr.mono (by decide)
    have hr6 : Room 6 _ := hr.mono (by decide)
    have hr8 : Room 8 _ := hr.mono (by decide)
    have hr10 : Room 10 _ := hr.mono (by decide)
    refine ⟨_, pss_cons (ps_for PassesOwn.never rfl (pi_range1 rfl G.ran (pa_cons pe_int pa_nil)) (pg_name (i := 1) sc48.nd rfl (Or.inl rfl))
      (pss_cons (ps_set (i := 2) sc48.nd rfl (Or.inl rfl) (pe_call G1 hr4 rfl D1.m D1.F.kp D1.b .nil pass0 (pa_cons (pv 0) (pa_cons pe_int pa_nil))))
      (pss_cons (ps_set (i := 3) sc48.nd rfl (Or.inl rfl) (pe_ifExp (pt_cmpR op_eq (pv 1) pe_int (nomark _)) (pe_make Mi GI hr6 rfl TT.mgC bI .nil passL (pa_cons (pv 2) pa_nil)) (pe_makeK0 Mi GI hr6 rfl TT.mgC kI passL (pk_cons (pv 2) pk_nil))))
      (pss_cons (ps_if (PW.pt (pw_or (pt_not (pt_truO (C := C) (E := E0) Db.1.at_ Db.1.fn (fnR_of Gb Db.2.2) hr1 pass0 (pv 3))) (pw_or (pt_not (pt_val (pe_callG (E := E0) G4 hr6 hG rfl D4.m D4.F.kp D4.b (pa_cons (pv 3) (pa_cons (pv 2) pa_nil)))))
          (pw_or1 (pt_not (pt_val (pe_callG (E := E0) G6 hr10 hG rfl D6.m D6.F.kp D6.b (pa_cons (pv 0) (pa_cons (pv 3) (pa_cons (pv 2) pa_nil)))))))))) pss_never pss_nil)
      (pss_cons (ps_if (pt_cmpR (op_neO (C := C) (E := E0) De.1.at_ De.1.fn B.ne B.mro (fnR_of Ge De.2.2) hr5 pass0) (pv 3)
          (ClX.pe_cmeth (E := E0) (pe_glob (v := .ref C) rfl TT.mgC rfl) TE.rd TE.cm (fnR_ofL TE.ok TE.b) hr8 passL (pa_cons (pe_call G2 hr2 rfl D2.m D2.F.kp D2.b .nil pass0 (pa_cons (pv 2) pa_nil)) pa_nil)) (nomark _)) pss_never pss_nil)
      (pss_cons (ps_for PassesOwn.never rfl (pi_list (pe_lst (pa_cons (pe_prop (pv 3) TT.cl Dx.1 Gx hr5 Dx.2.2 .nil pass0 rfl) (pa_cons (pv 2) (pa_cons pe_non (pa_cons (pe_callB call_len_seq rfl G.len bLen (pa_cons (pv 2) pa_nil))
            (pa_cons (pe_lst (pa_cons (pv 3) pa_nil)) (pa_cons (pe_tup (pa_cons (pv 3) pa_nil)) (pa_cons pe_dnewK pa_nil))))))))) (pg_name (i := 4) sc48.nd rfl (Or.inl rfl))
        (pss_one (ps_if (PW.pt (pw_or (pt_cmpR (op_eqO (C := C) (E := E0) De.1.at_ De.1.fn (fnR_of Ge De.2.2) hr4 pass0) (pv 3) (pv 4) (nomark _))
          (pw_or1 (pt_not (pt_cmpR (op_neO (C := C) (E := E0) De.1.at_ De.1.fn B.ne B.mro (fnR_of Ge De.2.2) hr5 pass0) (pv 3) (pv 4) (nomark _)))))) pss_never pss_nil)))
      (pss_one (ps_for PassesOwn.never rfl (pi_range1 rfl G.ran (pa_cons pe_int pa_nil)) (pg_name (i := 5) sc48.nd rfl (Or.inl rfl))
        (pss_cons (ps_set (i := 6) sc48.nd rfl (Or.inl rfl) (pe_call G3 hr3 rfl D3.m D3.F.kp D3.b .nil pass0 (pa_cons (pv 0) (pa_cons (pe_prop (pv 3) TT.cl Dx.1 Gx hr5 Dx.2.2 .nil pass0 rfl) pa_nil))))
        (pss_cons (ps_set (i := 6) sc48.nd rfl (Or.inl rfl) (pe_ifExp (PW.pt (pw_and (pt_cmpR op_gt (pv 5) pe_int (nomark _)) (pw_and (pt_val (pe_callB call_isi rfl G.isi bIsi (pa_cons (pv 6) (pa_cons (pe_bltn (v := .ty "str") rfl G.str bStr rfl) pa_nil))))
            (pw_and1 (pt_cmpR op_lt (pe_callB call_len_str rfl G.len bLen (pa_cons (pv 6) pa_nil)) pe_int (nomark _)))))) (pe_call G3 hr3 rfl D3.m D3.F.kp D3.b .nil pass0 (pa_cons (pv 0) (pa_cons (pv 6) pa_nil))) (pv 6)))
        (pss_one (ps_if (pt_not (pt_val (pe_callG (E := E0) G5 hr hG rfl D5.m D5.F.kp D5.b (pa_cons (pv 0) (pa_cons (pv 3) (pa_cons (pv 6) pa_nil)))))) pss_never pss_nil))))))))))))
      (pss_one (ps_ret pe_bl)), ?_⟩
    refine ⟨2, rfl, by decide, by decide, ?_⟩
    refine for_it (walk_range (lo := 0) (n := (2 : Int).toNat)) (fun i σ H3 => ∃ (x1 x2 x3 x4 x5 x6 : Option V), σ = [some (.ref j), x1, x2, x3, x4, x5, x6] ∧ ButX j H H3 ∧ JarAt H3 j ∧ LamX.Tabs T H3)
      ⟨none, none, none, none, none, none, rfl, .refl j H, hj, hT⟩ (fun _ _ _ _ _ => trivial) ?_ ?_
    · rintro i x σ H2 H3 hi ⟨x1, x2, x3, x4, x5, x6, rfl, bx, hj2, hT2⟩ ⟨rfl, rfl⟩
      refine ⟨_, rfl, j, rfl, hj2, fun v ls H4 b4 hj4 hv hg => ?_⟩
      have hT4 := tabs_but hT2 hj2 b4
      have bx4 := bx.trans (.of b4)
      clear bx hj2 hT2 b4
      have mk : ∀ (σ : L2.St) (Q : VK), σ[2]? = some (some v) → (∀ a H5, Same H4 H5 → AreasAt K C H5 a ls → Q (.ref a) H5) → ∀ b : Bool, if b = true then tMake C (spInit K C CL) [] E0 (tCons (tVar 2) tNil) σ H4 Q else tMakeK C 0 1 (spInit K C CL) (fun vs zs => vs ++ zs) E0 tNil (tCons (tVar 2) tNil) σ H4 Q := by
        intro σ Q h2 q b
        cases b with
        | true => exact iteT ⟨v, h2, make_good hv hg q⟩
        | false => exact iteF ⟨v, h2, rfl, rfl, make_good hv hg q⟩
      refine ⟨_, rfl, rfl, _, rfl, ?_⟩
      refine mk _ _ rfl (fun a H5 s5 hA => ?_) _
      clear mk
      have hv5 := dp_same s5 hv
      have hj5 := hj4.same s5
      have hT5 := hT4.ext s5
      have bx5 := bx4.trans (.same s5)
      clear hv hj4 hT4 bx4 s5
      obtain ⟨dx, va, e5, _⟩ := id hA
      refine ⟨_, rfl, a, dx, _, rfl, e5, a, rfl, true, rfl, iteF ?_⟩
      refine ⟨_, rfl, _, rfl, a, v, ls, rfl, hA, hv5, fun H6 s6 => ⟨_, rfl, iteF ?_⟩⟩
      refine ⟨_, rfl, _, rfl, _, rfl, j, a, v, ls, rfl, hj5.same s6, hA.same s6, dp_same s6 hv5, fun H7 b67 hj7 => ⟨_, rfl, iteF ?_⟩⟩
      have b7 := (But.of s6 (j := j)).trans b67
      have kt := b7.ktj hj5
      have hA7 := hA.kt kt
      have hv7 := dp_kt kt _ _ (flat_lines ls) hv5
      have hT7 := tabs_but hT5 hj5 b7
      have bx7 := bx5.trans (.of b7)
      clear kt b7 b67 s6 hT5 bx5 hv5 hj5 e5 hA
      -- told
      refine ⟨_, rfl, rfl, _, rfl, v, ls, rfl, hv7, hg, fun H8 s8 => ⟨.str (pageT ls), some ls, rfl, .inl ⟨pageT ls, rfl, ⟨Nat.le_trans (page_txt hg).1 (by decide), nld_mono (page_txt hg).2.1 (by decide)⟩, (told_page hg).symm⟩, fun ls' z b H9 s9 hB => ?_, (fun z => nomatch z)⟩⟩
      obtain rfl := Option.some.inj z
      have s79 := s8.trans s9
      refine ne_areas B (hA7.same s79) hB ⟨_, rfl, ?_⟩
      rw [decide_eq_true rfl]
      refine iteF ?_
      have hA9 := hA7.same s79
      have hv9 := dp_same s79 hv7
      have hT9 := hT7.ext s79
      have hj9 := hj7.same s79
      have bx9 := bx7.trans (.same s79)
      clear hA7 hv7 hT7 hj7 bx7 s79 s8 s9 hB z
      -- things
      obtain ⟨dx, va, e9, _⟩ := id hA9
      obtain ⟨vt, vs, rfl, hvt, hvs⟩ := dp_lines hv9
      refine ⟨_, rfl, a, dx, _, rfl, e9, a, ls, rfl, hA9, _, rfl, _, rfl, vt, vs, rfl, .inr hvt, _, rfl, by show 1 ≤ sizeLine; exact big4000 (by decide), fun m1 hm1 => ?_⟩
      have s10 : Same H9 (upd H9 m1 (.lst [.ref a])) := Same.upd hm1
      have h10 : (upd H9 m1 (.lst [.ref a])) m1 = some (.lst [.ref a]) := upd_same
      generalize upd H9 m1 (.lst [.ref a]) = H10 at *
      refine ⟨_, rfl, by show 1 ≤ sizeLine; exact big4000 (by decide), fun m2 hm2 => ?_⟩
      have s11 : Same H10 (upd H10 m2 (.tup [.ref a])) := Same.upd hm2
      have h11 : (upd H10 m2 (.tup [.ref a])) m2 = some (.tup [.ref a]) := upd_same
      generalize upd H10 m2 (.tup [.ref a]) = H11 at *
      refine fun m3 hm3 => ?_
      have s12 : Same H11 (upd H11 m3 (.dK [])) := Same.upd hm3
      have h12 : (upd H11 m3 (.dK [])) m3 = some (.dK []) := upd_same
      generalize upd H11 m3 (.dK []) = H12 at *
      refine ⟨by show 7 ≤ sizeLine; exact big4000 (by decide), fun n hn => ⟨n, rfl, ⟨_, .of upd_same⟩, ?_⟩⟩
      have s13 : Same H12 (upd H12 n (.lst [.str (pageT ls), .ref vt, .non, .int (vs.length : Nat), .ref m1, .ref m2, .ref m3])) := Same.upd hn
      have hn13 : (upd H12 n (.lst [.str (pageT ls), .ref vt, .non, .int (vs.length : Nat), .ref m1, .ref m2, .ref m3])) n = some (.lst [.str (pageT ls), .ref vt, .non, .int (vs.length : Nat), .ref m1, .ref m2, .ref m3]) := upd_same
      generalize upd H12 n (.lst [.str (pageT ls), .ref vt, .non, .int (vs.length : Nat), .ref m1, .ref m2, .ref m3]) = H13 at *
      have s913 := s10.trans (s11.trans (s12.trans s13))
      have hA13 := hA9.same s913
      have hT13 := hT9.ext s913
      have hj13 := hj9.same s913
      have bx13 := bx9.trans (.same s913)
      have each : ∀ (i : Nat) (y : V), [V.str (pageT ls), .ref vt, .non, .int (vs.length : Nat), .ref m1, .ref m2, .ref m3][i]? = some y → ∃ t, t ∈ ["str", "tuple", "NoneType", "int", "list", "dict"] ∧ TyX K H13 y (.type t) := fun i y h => by
        match i, h with
        | 0, h => exact ⟨"str", by decide, Option.some.inj h ▸ .base (.str _)⟩
        | 1, h => exact ⟨"tuple", by decide, Option.some.inj h ▸ tyx_tup (sqT_same s913 hvt)⟩
        | 2, h => exact ⟨"NoneType", by decide, Option.some.inj h ▸ .base .non⟩
        | 3, h => exact ⟨"int", by decide, Option.some.inj h ▸ .base (.int _)⟩
        | 4, h => exact ⟨"list", by decide, Option.some.inj h ▸ .base (.lst (s13 _ _ (s12 _ _ (s11 _ _ h10))))⟩
        | 5, h => exact ⟨"tuple", by decide, Option.some.inj h ▸ .base (.tup (s13 _ _ (s12 _ _ h11)))⟩
        | 6, h => exact ⟨"dict", by decide, Option.some.inj h ▸ .base (.dK (s13 _ _ h12))⟩
      clear s10 s11 s12 s13 h10 h11 h12 hm1 hm2 hm3 hn s913 hA9 hT9 hj9 bx9 e9 hvt hvs hv9
      refine for_it (walk_list (K := K) (a := n) (xs := [V.str (pageT ls), .ref vt, .non, .int (vs.length : Nat), .ref m1, .ref m2, .ref m3])) (fun i' σ H2 => ∃ (y4 y5 y6 : Option V), σ = [some (.ref j), some (.int (0 + (i : Nat))), some (.ref vt), some (.ref a), y4, y5, y6] ∧ Same H13 H2)
        ⟨_, _, _, rfl, .refl H13⟩ (fun i σ H2 _ ⟨_, _, _, _, s⟩ => s.seq (.of hn13)) ?_ ?_
      · rintro i' y σ H2 H3' hi' ⟨y4, y5, y6, rfl, s2⟩ ⟨rfl, hy⟩
        obtain ⟨t, ht, hty⟩ := each i' y hy
        exact ⟨_, rfl, _, rfl, eq_other B (hA13.same s2) (tyx_same hty s2) ht ⟨_, rfl, iteF ⟨_, rfl, _, rfl, ne_other B (hA13.same s2) (tyx_same hty s2) ht ⟨_, rfl, iteF ⟨_, _, _, rfl, s2⟩⟩⟩⟩⟩
      rintro σ H14 ⟨y4, y5, y6, rfl, s14⟩
      have hA14 := hA13.same s14
      have hT14 := hT13.ext s14
      have hj14 := hj13.same s14
      have bx14 := bx13.trans (.same s14)
      clear each hn13 hA13 hT13 hj13 bx13 s14
      refine ⟨7, rfl, by decide, by decide, ?_⟩
      refine for_it (walk_range (lo := 0) (n := (7 : Int).toNat)) (fun i' σ H3 => ∃ (z4 z5 z6 : Option V), σ = [some (.ref j), some (.int (0 + (i : Nat))), some (.ref vt), some (.ref a), z4, z5, z6] ∧ ButX j H14 H3 ∧ JarAt H3 j ∧ LamX.Tabs T H3)
        ⟨_, _, _, rfl, .refl j H14, hj14, hT14⟩ (fun _ _ _ _ _ => trivial) ?_ ?_
      · rintro i' x σ H2 H3' hi' ⟨z4, z5, z6, rfl, b2, hj2, hT2⟩ ⟨rfl, rfl⟩
        have hA2 := hA14.kt (b2.kt hj14)
        obtain ⟨dx, va', e2, _⟩ := id hA2
        have tl : ∀ H5, But j H3' H5 → JarAt H5 j → AreasAt K C H5 a ls ∧ LamX.Tabs T H5 ∧ ∀ H7, LamX.ExtN H5 H7 → ButX j H14 H7 ∧ JarAt H7 j := fun H5 b5 hj5 =>
          ⟨hA2.kt (b5.ktj hj2), tabs_but hT2 hj2 b5, fun H7 e7 => ⟨b2.trans ((ButX.of b5).trans (.ext e7)), jar_ext hj5 e7⟩⟩
        refine ⟨_, rfl, _, rfl, a, dx, _, rfl, e2, a, ls, rfl, hA2, j, pageT ls, 330, 32, rfl, hj2, page_txt hg, by decide, by decide, fun x H5 b5 hj5 hx => ?_⟩
        have tv := textV_of (K := K) hx (by decide) (by decide) (page_txt hg) (by decide)
        obtain ⟨q1, q2, q3⟩ := tl H5 b5 hj5
        refine ⟨_, rfl, _, _, rfl, rfl, _, rfl, ?_⟩
        refine ite2 (fun h => ?_) (fun h => ?_)
        · rcases hx with ⟨t', rfl, ht'⟩ | rfl | rfl | ⟨b, rfl, hb, _⟩
          · refine ⟨_, rfl, _, _, _, _, true, rfl, .ty "str", .base (.str _), kit_ty (by decide +kernel), _, rfl, iteT ?_⟩
            refine ⟨_, rfl, _, rfl, big4000 (Nat.le_trans ht'.1 (by decide)), _, _, rfl, rfl, _, rfl, ?_⟩
            refine ite2 (fun h => ?_) (fun h => ?_)
            · refine ⟨_, rfl, _, rfl, j, t', 700, 75, rfl, hj5, ht', by decide, by decide, fun x2 H6 b6 hj6 hx2 => ?_⟩
              have tv2 := textV_of (K := K) hx2 (by decide) (by decide) ht' (by decide)
              obtain ⟨r1, r2, r3⟩ := tl H6 (b5.trans b6) hj6
              exact ⟨_, rfl, _, rfl, _, rfl, j, a, x2, ls, rfl, r1, tv2, r2, fun H7 e7 hT7 => ⟨_, rfl, iteF ⟨_, _, _, rfl, (r3 H7 e7).1, (r3 H7 e7).2, hT7⟩⟩⟩
            · exact ⟨_, rfl, _, rfl, _, rfl, _, rfl, j, a, _, ls, rfl, q1, tv, q2, fun H7 e7 hT7 => ⟨_, rfl, iteF ⟨_, _, _, rfl, (q3 H7 e7).1, (q3 H7 e7).2, hT7⟩⟩⟩
          · refine ⟨_, rfl, _, _, _, _, false, rfl, .ty "str", .base .non, kit_ty (by decide +kernel), _, rfl, iteF ?_⟩
            exact ⟨_, rfl, _, rfl, _, rfl, _, rfl, j, a, _, ls, rfl, q1, tv, q2, fun H7 e7 hT7 => ⟨_, rfl, iteF ⟨_, _, _, rfl, (q3 H7 e7).1, (q3 H7 e7).2, hT7⟩⟩⟩
          · refine ⟨_, rfl, _, _, _, _, false, rfl, .ty "str", .base (.int _), kit_ty (by decide +kernel), _, rfl, iteF ?_⟩
            exact ⟨_, rfl, _, rfl, _, rfl, _, rfl, j, a, _, ls, rfl, q1, tv, q2, fun H7 e7 hT7 => ⟨_, rfl, iteF ⟨_, _, _, rfl, (q3 H7 e7).1, (q3 H7 e7).2, hT7⟩⟩⟩
          · refine ⟨_, rfl, _, _, _, _, false, rfl, .ty "str", .base (.lst hb), kit_ty (by decide +kernel), _, rfl, iteF ?_⟩
            exact ⟨_, rfl, _, rfl, _, rfl, _, rfl, j, a, _, ls, rfl, q1, tv, q2, fun H7 e7 hT7 => ⟨_, rfl, iteF ⟨_, _, _, rfl, (q3 H7 e7).1, (q3 H7 e7).2, hT7⟩⟩⟩
        · exact ⟨_, rfl, _, rfl, _, rfl, _, rfl, j, a, _, ls, rfl, q1, tv, q2, fun H7 e7 hT7 => ⟨_, rfl, iteF ⟨_, _, _, rfl, (q3 H7 e7).1, (q3 H7 e7).2, hT7⟩⟩⟩
      · rintro σ H15 ⟨z4, z5, z6, rfl, b15, hj15, hT15⟩
        exact ⟨_, _, _, _, _, _, rfl, bx14.trans b15, hj15, hT15⟩
    · rintro σ H3 ⟨x1, x2, x3, x4, x5, x6, rfl, bx, hj3, hT3⟩
      exact k H3 bx hT3
end
end K3

/-! The law's own defs, 15: law. -/
namespace K3
open PySem PySem.Spec PyProof.Rows L2 TL
section
variable {P : Program} {w : World} {K : PySem.W.Frag} {mg : Str → Option Value} {base : Heap} {C CL CT : Addr}
theorem sqL_fresh {j a : Addr} {H H1 H2 : Hp} {xs : List V} (h : SqL K H a xs) (hj : H j = none) (s : Same H H1) (b : ButX j H1 H2) : SqL K H2 a xs := by
  rcases h with (h | ⟨u, h⟩) | h
  · exact .inl (.inl (b _ _ (s _ _ h) (ne_of_none h hj) (fun _ z => nomatch z)))
  · exact .inl (.inr ⟨u, b _ _ (s _ _ h) (ne_of_none h hj) (fun _ z => nomatch z)⟩)
  · exact .inr h
def spLaw (K : PySem.W.Frag) (T : List (Addr × Str)) : Sp := fun vs H Q _ => ∃ (a : Addr) (ns : List Int), vs = [.ref a] ∧ SqL K H a (ns.map V.int) ∧ LamX.Tabs T H ∧ ∀ H', Q (.bl true) H'
theorem sc49 : FnScope ["_law_script", "_law_k"] ["_law_script"] (defScope (topS 49)) := ⟨rfl, rfl, rfl, by decide +kernel, rfl, by decide +kernel, by decide +kernel⟩
theorem ok_law (G : Glb mg) (D : DnE K mg "law" 49 ["_law_script"]) {T : List (Addr × Str)} (A1 : OkF P w K mg base 1 "_law_jar" 32 ["_law_script", "_law_k"] (spJar K)) (A2 : OkG P w K mg base 13 "_law_right" 48 ["_law_jar_here"] (spRight K T)) :
    OkG P w K mg base 14 "law" 49 ["_law_script"] (spLaw K T) := by
  obtain ⟨f, fd, D⟩ := D
  obtain ⟨f1, fd1, D1, G1⟩ := A1
  obtain ⟨f2, fd2, D2, G2⟩ := A2
  refine ⟨f, fd, D, okG D.F sc49 (fun vs H Q E h => ?_) (fun cdv A outer s H vs Q E hr hG _ _ h => ?_)⟩
  · obtain ⟨a, ns, rfl, _⟩ := h
    rfl
  · obtain ⟨a, ns, rfl, hS, hT, k⟩ := h
    refine ⟨_, pss_cons (ps_for PassesOwn.never rfl (pi_range1 rfl G.ran (pa_cons pe_int pa_nil)) (pg_name (i := 1) sc49.nd rfl (Or.inl rfl))
        (pss_one (ps_if (pt_not (pt_val (pe_callG (E := E0) G2 hr hG rfl D2.m D2.F.kp D2.b (pa_cons (pe_call G1 (hr.mono (by decide)) rfl D1.m D1.F.kp D1.b .nil pass0 (pa_cons (pv 0) (pa_cons (pv 1) pa_nil))) pa_nil)))) pss_never pss_nil)))
      (pss_one (ps_ret pe_bl)), ?_⟩
    refine ⟨2, rfl, by decide, by decide, ?_⟩
    refine for_it (walk_range (lo := 0) (n := (2 : Int).toNat)) (fun i σ H3 => ∃ (x1 : Option V), σ = [some (.ref a), x1] ∧ SqL K H3 a (ns.map V.int) ∧ LamX.Tabs T H3)
      ⟨none, rfl, hS, hT⟩ (fun _ _ _ _ _ => trivial) ?_ ?_
    · rintro i x σ H2 H3 hi ⟨x1, rfl, hS2, hT2⟩ ⟨rfl, rfl⟩
      have hi2 : i < 2 := hi
      refine ⟨_, rfl, _, rfl, a, i, ns, by simp, hS2, by omega, fun j H4 s4 hj hJ => ?_⟩
      exact ⟨j, rfl, hJ, hT2.ext s4, fun H5 b5 hT5 => ⟨_, rfl, iteF ⟨_, rfl, sqL_fresh hS2 hj s4 b5, hT5⟩⟩⟩
    · rintro σ H3 ⟨x1, rfl, _⟩
      exact k H3
end
end K3

/-! The end: the law called by the one who checks it. -/
namespace K3
open PySem PySem.Spec PyProof.Rows L2 TL
section
variable {K : PySem.W.Frag} {a Pt : Addr} {ob : Obj} {xs : List V}
/-- what is tracked as the law is entered: the table, and the script where it is none of K's objects -/
def hp0 (K : PySem.W.Frag) (a Pt : Addr) (ob : Obj) (xs : List V) : Hp := fun b => if b = Pt then some (.tbl #[]) else if b = a ∧ K.lookup a = none then some (.frz ob (.lst xs)) else none
theorem hp0_tab : hp0 K a Pt ob xs Pt = some (.tbl #[]) := if_pos rfl
theorem hp0_cases {b : Addr} {u : HO} (h : hp0 K a Pt ob xs b = some u) : (b = Pt ∧ u = .tbl #[]) ∨ (b = a ∧ K.lookup a = none ∧ u = .frz ob (.lst xs)) := by
  unfold hp0 at h
  split at h
  · rename_i e
    exact .inl ⟨e, (Option.some.inj h).symm⟩
  · split at h
    · rename_i e
      exact .inr ⟨e.1, e.2, (Option.some.inj h).symm⟩
    · cases h
theorem hp0_none {b : Addr} (h1 : b ≠ Pt) (h2 : b = a → K.lookup a ≠ none) : hp0 K a Pt ob xs b = none := by
  cases e : hp0 K a Pt ob xs b with
  | none => rfl
  | some u =>
    rcases hp0_cases e with ⟨z, _⟩ | ⟨z, k, _⟩
    · exact absurd z h1
    · exact absurd k (h2 z)
end
theorem lawG {P q : Program} {w : World} {K : PySem.W.Frag} {loose : List Str} {mean : ExcName → Option Value} {mg mb : Str → Option Value} {k : Nat} {fa a c Pt : Addr} {fd : FuncData} {x : Str} {s₁ : Shared} {vs : List Value} {ns : List Int} {ql : Str}
    (T : Top q loose mean mg mb s₁.heap) (KX : K.In s₁.heap) (hg : s₁.gens = #[]) (hT : s₁.heap.get? Pt = some { cls := .none, data := .fields #[] }) (nT : K.lookup Pt = none) (C : PySem.W.CodeHd s₁.heap c Pt)
    (ha : s₁.heap.get? a = some { cls := .type "list", data := .seq vs.toArray }) (hi : IntsAre vs ns) (hl : ns.length ≤ sizeLine) (hr : Room k callerA)
    (F : ∀ base : Heap, K.In base → base.Ns mainGlobals mg → LamX.TabB base mg c Pt → FnG P w K mg base k fa fd [x] (spLaw K [(Pt, ql)])) (hbind : ∀ (s : Shared) (u : Value), K.In s.heap → BindsTo s fd ⟨[u], []⟩ [(x, u)]) :
    codeAny (model P w) callerA (.call (.ref fa) ⟨[.ref a], []⟩) (fun r s' => r = .ok (.ret (.bool true)) ∧ OldK s₁.heap s'.heap ∧ s'.os = s₁.os ∧ AllBare s'.gens) s₁ := by
  have rv := vals_ints hi
  obtain ⟨xs, exs⟩ : ∃ xs, xs = ns.map V.int := ⟨_, rfl⟩
  obtain ⟨H, eH⟩ : ∃ H, H = hp0 K a Pt { cls := .type "list", data := .seq vs.toArray } xs := ⟨_, rfl⟩
  have lx : xs.length ≤ sizeLine := by rw [exs, List.length_map]; exact hl
  rw [← exs] at rv
  have out : ∀ {b : Addr} {o : Obj}, s₁.heap.get? b = some o → o.cls ≠ .none → o.cls ≠ .type "list" → H b = none := fun {b o} e h1 h2 => by
    rw [eH]
    refine hp0_none (fun z => ?_) fun z => ?_
    · rw [z, hT] at e
      cases e
      exact absurd rfl h1
    · rw [z, ha] at e
      cases e
      exact absurd rfl h2
  have dct : ∀ {b : Addr} {o : Obj} {es : Array DictEntry} {ep : Nat}, s₁.heap.get? b = some o → o.data = .dict es ep → H b = none := fun {b o es ep} e d => by
    rw [eH]
    refine hp0_none (fun z => ?_) fun z => ?_
    · rw [z, hT] at e
      cases e
      cases d
    · rw [z, ha] at e
      cases e
      cases d
  have ns_ : ∀ {b : Addr} {m : Str → Option Value}, s₁.heap.Ns b m → (hidT s₁.heap H).Ns b m := by
    rintro b m ⟨o, es, ep, e, d, r⟩
    exact ⟨o, es, ep, hidT_get e (dct e d), d, r⟩
  have kin : K.In (hidT s₁.heap H) := fun b o e => hidT_get (KX b o e) (by
    rw [eH]
    refine hp0_none (fun z => ?_) fun z n => ?_
    · rw [z, nT] at e
      cases e
    · rw [z, n] at e
      cases e)
  have md : L2.Mod K mg (hidT s₁.heap H) := by
    obtain ⟨mc, l1, l2⟩ := T.nolimit
    exact ⟨kin, ns_ T.g, ⟨mb, ns_ T.b, T.builtins⟩, ⟨mc, ns_ l1, l2⟩⟩
  have tb : LamX.TabB (hidT s₁.heap H) mg c Pt := by
    refine ⟨?_, ?_, fun z => ?_⟩
    · obtain ⟨o, us, file, tf, flags, tg, inF, text, tt, e1, r1, r⟩ := C
      exact ⟨o, us, file, tf, flags, tg, inF, text, tt, hidT_get e1 (out e1 (by rw [r1]; exact fun z => nomatch z) (by rw [r1]; exact fun z => absurd (Value.type.inj z) (by decide))), r1, r⟩
    · obtain ⟨bm, om, b1, b2, b3, b4, b5, b6⟩ := T.bmain
      refine ⟨bm, om, b1, b2, fun z => ?_, fun z => ?_, hidT_get b3 (out b3 (by rw [b4]; exact fun z => nomatch z) (by rw [b4]; exact fun z => absurd (Value.type.inj z) (by decide))), b4, b5, b6⟩
      · obtain ⟨o, es, ep, e, d, _⟩ := T.g
        rw [z, e] at b3
        cases b3
        rw [d] at b6
        cases b6
      · rw [z, hT] at b3
        cases b3
        cases b4
    · obtain ⟨o, es, ep, e, d, _⟩ := T.g
      rw [z, hT] at e
      cases e
      cases d
  have ok : HOk P w H s₁.heap := fun b u e => by
    rw [eH] at e
    rcases hp0_cases e with ⟨rfl, rfl⟩ | ⟨rfl, _, rfl⟩
    · exact hT
    · exact ⟨ha, lx, vs, _, rv, ha⟩
  have e0 : Env0 P w K mg (hidT s₁.heap H) callerA [] s₁ H := ⟨rfl, md, fun b o e => of_hidT e, Nat.le_of_eq (hidT_size _ _), trivial, fun b hb => absurd (show b ∈ ([] : List Addr) from hb) List.not_mem_nil, ok, .of_eq hg⟩
  have sq : SqL K H a xs := by
    cases hk : K.lookup a with
    | none => exact .inl (.inr ⟨{ cls := .type "list", data := .seq vs.toArray }, by
        rw [eH]
        unfold hp0
        rw [if_neg fun z => ?_, if_pos ⟨rfl, hk⟩]
        rw [z, hT] at ha
        cases ha⟩)
    | some o =>
      have e := KX a o hk
      rw [ha] at e
      cases e
      exact .inr ⟨_, vs.toArray, _, hk, rfl, rfl, rfl, by rw [List.size_toArray, ← rv.length]; exact lx, by simpa using rv⟩
  have tabs : LamX.Tabs [(Pt, ql)] H := fun p hp => by
    rw [List.mem_singleton.mp hp]
    exact LamX.TabS.nil (by rw [eH]; exact hp0_tab)
  have sp : spLaw K [(Pt, ql)] [.ref a] H (fun v _ => v = .bl true) fun _ _ _ => False := ⟨a, ns, rfl, by rw [← exs]; exact sq, tabs, fun _ => rfl⟩
  refine codeAny_mono ((F _ kin (ns_ T.g) tb).run callerA [] s₁ H ⟨[.ref a], []⟩ [.ref a] [.ref a] _ _ hr rfl e0 (hbind s₁ (.ref a) KX) (.cons rfl .nil) sp) fun r s' h => ?_
  match r, h with
  | .ok (.ret u), ⟨v, H', os, bare, un, ok', rel, ev⟩ =>
    have ev : v = .bl true := ev
    subst ev
    obtain rfl : u = Value.bool true := rel
    obtain ⟨more, ht⟩ := un.tbls Pt #[] (by rw [eH]; exact hp0_tab)
    have ht : s'.heap.get? Pt = some { cls := .none, data := .fields (#[] ++ more) } := ok' Pt _ ht
    have rest : ∀ b o, b ≠ Pt → s₁.heap.get? b = some o → s'.heap.get? b = some o := fun b o nb e => by
      by_cases z : b = a ∧ K.lookup a = none
      · obtain ⟨rfl, z⟩ := z
        have h0 : H b = some (.frz { cls := .type "list", data := .seq vs.toArray } (.lst xs)) := by
          rw [eH]
          unfold hp0
          rw [if_neg nb, if_pos ⟨rfl, z⟩]
        rw [ha] at e
        cases e
        exact (ok' b _ (un.frzs b _ _ h0)).1
      · exact un.keep b o e (by rw [eH]; exact hp0_none nb fun y n => z ⟨y, n⟩) List.not_mem_nil List.not_mem_nil
    refine ⟨rfl, ⟨fun b o e => ?_, fun b o e => ?_⟩, os, bare⟩
    · by_cases nb : b = Pt
      · subst nb
        rw [hT] at e
        cases e
        exact .inr (.inl ⟨(C.tab hT).isCodeTable, rfl, #[], more, rfl, ht⟩)
      · exact .inl (rest b o nb e)
    · by_cases nb : b = Pt
      · exact ⟨_, nb ▸ ht⟩
      · exact ⟨o, rest b o nb e⟩
theorem walkG {l : PySem.W.OpenLaw} {n k : Nat} {q : Program} {loose : List Str} {XP : (Str → Option Value) → Heap → Prop} {YP : World → Heap → Prop} {d : DefRec} {K : Params → PySem.W.Frag} {x ql : Str}
    (hn : l.most = some n) (hn2 : n ≤ sizeLine) (hdf : d.params.defaults = []) (hr : Room k callerA) (hY : ∀ (w : World) (h : Heap), YP w h → (K w.params).In h)
    (F : ∀ (w : World) (mg mb : Str → Option Value) (mean : ExcName → Option Value) (fa : Addr) (h : Heap), YP w h → (K w.params).In h → Top q (PySem.W.looseW q loose) mean mg mb h → mg d.name = some (.ref fa) →
      ∃ (fd : FuncData) (c Pt : Addr), h.get? Pt = some { cls := .none, data := .fields #[] } ∧ (K w.params).lookup Pt = none ∧ PySem.W.CodeHd h c Pt ∧ (∀ (s : Shared) (u : Value), (K w.params).In s.heap → BindsTo s fd ⟨[u], []⟩ [(x, u)]) ∧
        ∀ base : Heap, (K w.params).In base → base.Ns mainGlobals mg → LamX.TabB base mg c Pt → FnG l.prog w (K w.params) mg base k fa fd [x] (spLaw (K w.params) [(Pt, ql)])) :
    PySem.W.WalkO q loose XP YP l.row.toRowW d [] (fun f vs => PySem.call f vs) := by
  refine Att.attach_callB hn hdf fun w s₀ s₁ mg mb fa o pm cd doc a vs ns G Y ho hd hcd hmg hobj hints hlen hbits hg => ?_
  obtain ⟨fd, c, Pt, hT, nT, C, hb, hF⟩ := F w mg mb _ fa _ Y (hY w _ Y) G.T hmg
  exact lawG G.T (hY w _ Y) hg hT nT C hobj hints (Nat.le_trans hlen hn2) hr hF hb
end K3

/-! The end's facts (printed by geneb.py). -/
namespace K3
open PySem PySem.Spec PyProof.Rows L2 TL
section
variable {K : PySem.W.Frag} {mg : Str → Option Value} {h : Heap} {f g p C : Addr} {od an : Option Addr} {oc kV dc pm cd ct : Value} {sl : Array (Option Value)}
theorem mk_dn {x : Str} {i : Nat} {ps : List Str} (X : K.In h) (G : h.Ns mainGlobals mg) (a : PySem.W.nsIn K mainGlobals x = some (some (.ref f)))
    (l : K.lookup f = some ⟨oc, od, .func (PySem.W.fnOf x x (defArgs (topS i)) (defBody (topS i)) (defScope (topS i)) .none kV dc pm an cd ct), sl⟩) (c : PySem.W.codeIn K cd x = true) (k : PySem.W.keepIn K (.ref f) = true)
    (b : ∀ (kV doc pm : Value) (an : Option Addr) (cdv ct : Value) (us : List Value), us.length = ps.length → bindArgs (PySem.W.fnOf x x (defArgs (topS i)) (defBody (topS i)) (defScope (topS i)) .none kV doc pm an cdv ct) ⟨us, []⟩ = pure (ps.zip us)) : DnE K mg x i ps := by
  have F := fun_mk l c k
  exact ⟨_, _, F, PySem.W.mg_of X G a, F.binds b⟩
theorem mk_me {x q : Str} {j : Nat} {ps : List Str} (hq : "Areas." ++ x = q) (a : PySem.W.findIn K (.ref C) x = some (some (.ref f))) (i : PySem.W.isFn K (.ref f) = true)
    (l : K.lookup f = some ⟨oc, od, .func (PySem.W.fnOf x q (defArgs (sAr j)) (defBody (sAr j)) (defScope (sAr j)) .none kV dc pm an cd ct), sl⟩) (c : PySem.W.codeIn K cd q = true) (k : PySem.W.keepIn K (.ref f) = true)
    (b : ∀ (kV doc pm : Value) (an : Option Addr) (cdv ct : Value) (us : List Value), us.length = ps.length → bindArgs (PySem.W.fnOf x q (defArgs (sAr j)) (defBody (sAr j)) (defScope (sAr j)) .none kV doc pm an cdv ct) ⟨us, []⟩ = pure (ps.zip us)) : ∃ g fd, MeE K C x j ps g fd := by
  have F := fun_mk l c k
  refine ⟨_, _, ⟨a, i, k⟩, ?_, F.binds b⟩
  rw [hq]
  exact F
theorem mk_pr {x q : Str} {j : Nat} {rest : List Value} (hq : "Areas." ++ x = q) (a : PySem.W.findIn K (.ref C) x = some (some (.ref p))) (s : PySem.W.specialIn K (.ref p) "__get__" = some (some (.builtin "property.__get__"))) (t : PySem.W.takesIn K (.ref p) = some true) (r : PySem.W.recIn K p "property" = some (.ref f :: rest))
    (l : K.lookup f = some ⟨oc, od, .func (PySem.W.fnOf x q (defArgs (sAr j)) (defBody (sAr j)) (defScope (sAr j)) .none kV dc pm an cd ct), sl⟩) (c : PySem.W.codeIn K cd q = true) (k : PySem.W.keepIn K (.ref f) = true)
    (b : ∀ (kV doc pm : Value) (an : Option Addr) (cdv ct : Value) (us : List Value), us.length = ["self"].length → bindArgs (PySem.W.fnOf x q (defArgs (sAr j)) (defBody (sAr j)) (defScope (sAr j)) .none kV doc pm an cdv ct) ⟨us, []⟩ = pure ((["self"] : List Str).zip us)) : ∃ p g fd, PrE K C x j p g fd := by
  have F := fun_mk l c k
  refine ⟨_, _, _, ⟨a, s, t, _, r⟩, ?_, F.binds b⟩
  rw [hq]
  exact F
theorem dn_uni {x : Str} {st : Stmt} {ps : List Str} {f f' : Addr} {fd fd' : FuncData} (D : Dn K mg x st ps f fd) (D' : Dn K mg x st ps f' fd') : f = f' ∧ fd = fd' := by
  have e := D.m.symm.trans D'.m
  cases e
  obtain ⟨_, _, _, _, _, _, _, _, _, e1, l1, _⟩ := D.F.ex
  obtain ⟨_, _, _, _, _, _, _, _, _, e2, l2, _⟩ := D'.F.ex
  have e := l1.symm.trans l2
  cases e
  exact ⟨rfl, rfl⟩
theorem kit_of {t : String} (i : PySem.W.isClsIn K C = true) (ty : PySem.W.typeIn K (.ref C) = some (.type "type")) (s : PySem.W.subIn K (.type t) (.ref C) = some false) : PySem.W.kitOne K (.type t) (.ref C) = some false := by
  unfold PySem.W.kitOne
  rw [if_neg (by simp)]
  show (if ((PySem.W.clsIn K C).isSome && PySem.W.typeIn K (.ref C) == some (.type "type")) = true then PySem.W.subIn K (.type t) (.ref C) else none) = _
  rw [if_pos (by
    have i : (PySem.W.clsIn K C).isSome = true := i
    rw [i, ty]
    simp)]
  exact s
theorem nf_of {t : String} (s : PySem.W.subIn K (.type t) (.ref C) = some false) : PySem.W.notFirst K C (.type t) = true := by
  unfold PySem.W.notFirst
  rw [s]
  simp
theorem exm_of {B : Addr} {b : Bool} (h1 : PySem.W.subIn K (.ref C) (.type "BaseException") = some true) (i : PySem.W.isClsIn K C = true) (ty : PySem.W.typeIn K (.ref C) = some (.type "type")) (s : PySem.W.subIn K (.ref B) (.ref C) = some b) : PySem.W.exmOne K (.ref B) (.ref C) = some b := by
  unfold PySem.W.exmOne
  rw [h1, if_pos (by simp)]
  show (if ((PySem.W.clsIn K C).isSome && PySem.W.typeIn K (.ref C) == some (.type "type")) = true then PySem.W.subIn K (.ref B) (.ref C) else none) = _
  rw [if_pos (by
    have i : (PySem.W.clsIn K C).isSome = true := i
    rw [i, ty]
    simp)]
  exact s
theorem exmAny_of {B c1 c2 c3 : Addr} {b1 b2 b3 : Bool} (h1 : PySem.W.exmOne K (.ref B) (.ref c1) = some b1) (h2 : PySem.W.exmOne K (.ref B) (.ref c2) = some b2) (h3 : PySem.W.exmOne K (.ref B) (.ref c3) = some b3) (hb : (b1 || (b2 || (b3 || false))) = true) :
    PySem.W.exmAny K (.ref B) [.ref c1, .ref c2, .ref c3] = some true := by
  simp only [PySem.W.exmAny, h1, h2, h3]
  rw [hb]
/-- the code object of a def and its table, which is empty -/
theorem tab_facts {q : Program} {loose : List Str} {mean : ExcName → Option Value} {mb : Str → Option Value} {x : Str} {c Pt : Addr} {e0 : Value} {dd : Option Addr} {us : Array Value} {sl2 : Array (Option Value)} {fd : FuncData} (T : Top q loose mean mg mb h) (X : K.In h) (hrec : ((recsOf q).any fun e => e.name == x) = true) (m : mg x = some (.ref f))
    (lk : K.lookup f = some ⟨oc, od, .func fd, sl⟩) (hc : fd.code = .ref c) (lc : K.lookup c = some ⟨e0, dd, .fields us, sl2⟩) (h11 : us[11]? = some (.ref Pt)) : h.get? Pt = some { cls := .none, data := .fields #[] } ∧ PySem.W.CodeHd h c Pt := by
  obtain ⟨d, hd, hn⟩ := List.any_eq_true.mp hrec
  have hn := beq_iff_eq.mp hn
  obtain ⟨a, o, fd2, c2, P2, t1, t2, t3, t4, t5, t6⟩ := T.tab d hd
  rw [hn, m] at t1
  cases t1
  have e1 := X _ _ lk
  rw [e1] at t2
  cases t2
  cases t3
  rw [hc] at t4
  cases t4
  have C := PySem.W.CodeHd.of t5 t6
  obtain ⟨⟨oc2, vc, u1, _, u3, u4⟩, hP⟩ := t6
  have e2 := X _ _ lc
  rw [e2] at u1
  cases u1
  cases u3
  rw [h11] at u4
  cases u4
  exact ⟨hP, C⟩
end
theorem mk_glb {K : PySem.W.Frag} {mg : Str → Option Value} {h : Heap} {t1 t2 t3 t4 : Tok} (X : K.In h) (G : h.Ns mainGlobals mg)
    (n0 : PySem.W.nsIn K mainGlobals "isinstance" = some none)
    (n1 : PySem.W.nsIn K mainGlobals "int" = some none)
    (n2 : PySem.W.nsIn K mainGlobals "bool" = some none)
    (n3 : PySem.W.nsIn K mainGlobals "tuple" = some none)
    (n4 : PySem.W.nsIn K mainGlobals "str" = some none)
    (n5 : PySem.W.nsIn K mainGlobals "len" = some none)
    (n6 : PySem.W.nsIn K mainGlobals "all" = some none)
    (n7 : PySem.W.nsIn K mainGlobals "enumerate" = some none)
    (n8 : PySem.W.nsIn K mainGlobals "range" = some none)
    (n9 : PySem.W.nsIn K mainGlobals "list" = some none)
    (n10 : PySem.W.nsIn K mainGlobals "repr" = some none)
    (n11 : PySem.W.nsIn K mainGlobals "abs" = some none)
    (n12 : PySem.W.nsIn K mainGlobals "divmod" = some none)
    (n13 : PySem.W.nsIn K mainGlobals "min" = some none)
    (c1 : PySem.W.nsIn K mainGlobals "DIGITS" = some (some (.str "0123456789" t1))) (c2 : PySem.W.nsIn K mainGlobals "LETTERS" = some (some (.str "abcdefghijklmnopqrstuvwxyz" t2))) (c3 : PySem.W.nsIn K mainGlobals "MOST_NUMBER" = some (some (.int 4000 t3))) (c4 : PySem.W.nsIn K mainGlobals "MOST_LINES" = some (some (.int 10 t4))) : Glb mg :=
  ⟨PySem.W.mg_none_of X G n0, PySem.W.mg_none_of X G n1, PySem.W.mg_none_of X G n2, PySem.W.mg_none_of X G n3, PySem.W.mg_none_of X G n4, PySem.W.mg_none_of X G n5, PySem.W.mg_none_of X G n6, PySem.W.mg_none_of X G n7, PySem.W.mg_none_of X G n8, PySem.W.mg_none_of X G n9, PySem.W.mg_none_of X G n10, PySem.W.mg_none_of X G n11, PySem.W.mg_none_of X G n12, PySem.W.mg_none_of X G n13, ⟨_, PySem.W.mg_of X G c1⟩, ⟨_, PySem.W.mg_of X G c2⟩, ⟨_, PySem.W.mg_of X G c3⟩, ⟨_, PySem.W.mg_of X G c4⟩⟩
section
variable {P : Program} {w : World} {K : PySem.W.Frag} {mg : Str → Option Value} {C CL CT : Addr}
theorem all_of {fI fL fT c Pt c1 c2 c3 pT gT f46 fH fa : Addr} {fdI fdT fd46 fdH fda : FuncData} {mc : Value}
    (G : Glb mg) (T : ArT K mg C)
    (d13 : DnE K mg "is_integer" 13 ["value"])
    (d14 : DnE K mg "is_within" 14 ["value", "least", "greatest"])
    (d15 : DnE K mg "is_tuple_of" 15 ["value", "many"])
    (d16 : DnE K mg "is_name" 16 ["value"])
    (d17 : DnE K mg "written_natural" 17 ["word"])
    (d19 : DnE K mg "is_stretch" 19 ["value"])
    (d20 : DnE K mg "check_stretch" 20 ["value"])
    (d21 : DnE K mg "written_stretch" 21 ["stretch"])
    (d22 : DnE K mg "stretch_told" 22 ["word"])
    (d24 : DnE K mg "is_line" 24 ["value", "names"])
    (d25 : DnE K mg "line_text" 25 ["line", "word"])
    (d26 : DnE K mg "line_told" 26 ["text", "word"])
    (d28 : DnE K mg "areas_told" 28 ["texts", "word"])
    (d29 : DnE K mg "check_area" 29 ["areas", "name"])
    (d30 : DnE K mg "with_stretch" 30 ["areas", "index", "stretch"])
    (d32 : DnE K mg "_law_jar" 32 ["_law_script", "_law_k"])
    (d33 : DnE K mg "_law_draw" 33 ["_law_jar_here", "_law_size"])
    (d34 : DnE K mg "_law_pick" 34 ["_law_jar_here", "_law_menu"])
    (d35 : DnE K mg "_law_tags" 35 ["_law_jar_here", "_law_many"])
    (d36 : DnE K mg "_law_drawn" 36 ["_law_jar_here", "_law_most"])
    (d37 : DnE K mg "_law_word" 37 ["_law_span"])
    (d38 : DnE K mg "_law_page" 38 ["_law_lines"])
    (d39 : DnE K mg "_law_number" 39 ["_law_word_here"])
    (d40 : DnE K mg "_law_span_told" 40 ["_law_word_here"])
    (d41 : DnE K mg "_law_is_tag" 41 ["_law_word_here"])
    (d42 : DnE K mg "_law_told" 42 ["_law_text"])
    (d43 : DnE K mg "_law_bent" 43 ["_law_jar_here", "_law_text"])
    (d45 : DnE K mg "_law_shows" 45 ["_law_made", "_law_lines"])
    (d47 : DnE K mg "_law_changed_right" 47 ["_law_jar_here", "_law_made", "_law_lines"])
    (d48 : DnE K mg "_law_right" 48 ["_law_jar_here"])
    (dH : Dn K mg "_law_heard" (topS 44) ["_law_act"] fH fdH) (dL : Dn K mg "law" (topS 49) ["_law_script"] fa fda) (d46 : Dn K mg "_law_read_right" (topS 46) ["_law_jar_here", "_law_made", "_law_text"] f46 fd46) (fc : FunC K "_law_read_right" "_law_read_right" (topS 46) f46 fd46 c)
    (p2 : ∃ p g fd, PrE K C "lines" 2 p g fd)
    (p3 : ∃ p g fd, PrE K C "names" 3 p g fd)
    (p4 : ∃ p g fd, PrE K C "leaves" 4 p g fd)
    (p5 : ∃ p g fd, PrE K C "text" 5 p g fd)
    (m6 : ∃ g fd, MeE K C "stretch" 6 ["self", "name"] g fd)
    (m7 : ∃ g fd, MeE K C "inner" 7 ["self", "name"] g fd)
    (m8 : ∃ g fd, MeE K C "changed" 8 ["self", "name", "stretch"] g fd)
    (m9 : ∃ g fd, MeE K C "__len__" 9 ["self"] g fd)
    (m10 : ∃ g fd, MeE K C "__bool__" 10 ["self"] g fd)
    (m11 : ∃ g fd, MeE K C "__str__" 11 ["self"] g fd)
    (m12 : ∃ g fd, MeE K C "__eq__" 12 ["self", "other"] g fd)
    (mI : Mk K C fI) (FI : Fun K "__init__" "Areas.__init__" (sAr 0) fI fdI) (hsup : mg "super" = none) (RL : ErrC K P (inClass (topS 6) 0) "InvalidLines.__init__" CL fL "index") (mRL : mg "InvalidLines" = some (.ref CL)) (RT : ErrC K P (inClass (topS 4) 0) "InvalidText.__init__" CT fT "given") (mRT : mg "InvalidText" = some (.ref CT))
    (eR : PySem.W.exmOne K (.ref CL) (.ref CL) = some true) (rd : ClX.CRead K C mc) (cm : ClX.CMet K C mc "told" pT gT) (FT : Fun K "told" "Areas.told" (sAr 1) gT fdT)
    (xf : XfC K CT) (m1 : mg "WrongValue" = some (.ref c1)) (m2 : mg "WrongName" = some (.ref c2)) (m3 : mg "NotPossible" = some (.ref c3)) (hx : PySem.W.exmAny K (.ref CT) [.ref c1, .ref c2, .ref c3] = some true)
    (ne : PySem.W.findIn K (.ref C) "__ne__" = some (some (.builtin "object.__ne__"))) (mro : PySem.W.mroIn K C (.type "object") = some true) (ca : PySem.W.findIn K (.ref C) "__class__" = some (some (.builtin "object.__class__")))
    (cs : PySem.W.specialIn K (.builtin "object.__class__") "__get__" = some (some (.builtin "getset_descriptor.__get__"))) (ct : PySem.W.takesIn K (.builtin "object.__class__") = some true)
    (kit : ∀ t ∈ ["str", "tuple", "NoneType", "int", "list", "dict"], PySem.W.kitOne K (.type t) (.ref C) = some false) (nf : ∀ t ∈ ["str", "tuple", "NoneType", "int", "list", "dict"], PySem.W.notFirst K C (.type t) = true) :
    ∀ base : Heap, K.In base → base.Ns mainGlobals mg → LamX.TabB base mg c Pt → FnG P w K mg base 14 fa fda ["_law_script"] (spLaw K [(Pt, qL)]) := by
  intro base hK hN TB
  obtain ⟨_, _, _, e2⟩ := p2
  obtain ⟨_, _, _, e3⟩ := p3
  obtain ⟨_, _, _, e4⟩ := p4
  obtain ⟨_, _, _, e5⟩ := p5
  obtain ⟨_, _, e6⟩ := m6
  obtain ⟨_, _, e7⟩ := m7
  obtain ⟨_, _, e8⟩ := m8
  obtain ⟨_, _, e9⟩ := m9
  obtain ⟨_, _, e10⟩ := m10
  obtain ⟨_, _, e11⟩ := m11
  obtain ⟨_, _, e12⟩ := m12
  have a13 := ok_isInt (P := P) (w := w) (base := base) G d13
  have a14 := ok_within G d14 a13
  have a15 := ok_tupOf (P := P) (w := w) (base := base) G d15
  have a16 := ok_isName (P := P) (w := w) (base := base) G d16
  have a17 := ok_nat (P := P) (w := w) (base := base) G d17
  have a19 := ok_isStr G d19 a15 a14
  have a20 := ok_chkStr G d20 a19
  have a21 := ok_wrS (P := P) (w := w) (base := base) G d21
  have a22 := ok_strT G d22 a17 a19 a21
  have a24 := ok_isLine G d24 a15 a16 a19
  have a25 := ok_lineT G d25 a21
  have a26 := ok_lineTold G d26 a22
  have aI := ok_init G T FI hsup RL mRL a24 a25
  have iB : Binds K fdI ["self", "lines"] [] := FI.binds fun _ _ _ _ _ _ us hl => match us, hl with | [_, _], _ => rfl
  have iK : KBn K fdI ["self", "lines"] 1 ["lines"] (fun us ws => us ++ ws) (fun vs zs => vs ++ zs) := by
    obtain ⟨oc, od, kV, doc, p, an, cdv, ct, osl, rfl, lk, hcd⟩ := FI.ex
    exact ⟨fun s us ws _ h1 h2 => match us, ws, h1, h2 with | [_], [_], _, _ => .of_eq rfl, fun r1 r2 => r1.append r2⟩
  have M : InE P w K mg base C CL := ⟨fI, fdI, mI, iB, iK, aI⟩
  have b2 := ok_lines (P := P) (w := w) (base := base) T e2
  have b3 := ok_names (P := P) (w := w) (base := base) G T e3
  have b11 := ok_str (P := P) (w := w) (base := base) T e11
  have b4 := ok_leaves (P := P) (w := w) (base := base) G T e4
  have b5 := ok_text G e5 b11
  have b9 := ok_len (P := P) (w := w) (base := base) G T e9
  have b10 := ok_bool (P := P) (w := w) (mg := mg) (base := base) e10
  have b12 := ok_eq G T e12 b11
  have a29 := ok_chkA G T d29 b3
  have b6 := ok_stretch G T e6 b3 a29
  have b7 := ok_inner G T e7 a29
  have a30 := ok_with G T d30 b2 M
  have b8 := ok_changed T e8 b3 a29 a20 a30
  have a28 := ok_aTold G T d28 a26 M mRL eR
  have aT := ok_told G FT hsup RT mRT a28
  have tB : Binds K fdT ["cls", "text"] [] := FT.binds fun _ _ _ _ _ _ us hl => match us, hl with | [_, _], _ => rfl
  have TE : ToldE P w K mg base C CT mc pT gT fdT := ⟨rd, cm, FT, tB, aT⟩
  have B : ArB P w K mg base C := ⟨T, b2, b3, b4, b5, b6, b7, b8, b9, b10, b11, b12, ne, mro, ca, cs, ct, kit, nf⟩
  have a32 := ok_jar (P := P) (w := w) (base := base) G d32
  have a33 := ok_draw (P := P) (w := w) (K := K) (base := base) G d33
  have a34 := ok_pick G d34 a33
  have a35 := ok_tags G d35 a34
  have a36 := ok_drawn G d36 a33 a34 a35
  have a37 := ok_word (P := P) (w := w) (base := base) G d37
  have a38 := ok_page G d38 a37
  have a39 := ok_num (P := P) (w := w) (base := base) G d39
  have a40 := ok_spT G d40 a39
  have a41 := ok_isTag (P := P) (w := w) (base := base) G d41
  have a42 := ok_lTold G d42 a41 a40
  have a43 := ok_bent G d43 a33 a34
  have a45 := ok_shows G d45 B a38
  have a46 := ok_read (Pt := Pt) G fc B TE TB a42 dH (fun {X q cdg} eK em => heard_gives (X := X) (by rw [em]; exact G.isi) (by rw [em]; exact mRT) (by rw [em]; exact m1) (by rw [em]; exact m2) (by rw [em]; exact m3) (by rw [eK]; exact hx) (by rw [eK]; exact xf) (by rw [eK]; exact RT.noF)) a45
  have a47 := ok_chR G d47 B a33 a34 a45
  have a48 := ok_right G d48 B M TE a36 a38 a43 a45 ⟨f46, fd46, d46, a46⟩ a47
  obtain ⟨f, fd, D', a49⟩ := ok_law G ⟨fa, fda, dL⟩ a32 a48
  obtain ⟨rfl, rfl⟩ := dn_uni dL D'
  exact a49
end
end K3

/-! The end's one theorem over raw facts (printed by genend.py). -/
namespace K3
open PySem PySem.Spec PyProof.Rows L2 TL
theorem fin_of {P q : Program} {w : World} {K : PySem.W.Frag} {loose : List Str} {mean : ExcName → Option Value} {mg mb : Str → Option Value} {h : Heap} {fa : Addr}
    {C f13 f14 f15 f16 f17 f19 f20 f21 f22 f24 f25 f26 f28 f29 f30 f32 f33 f34 f35 f36 f37 f38 f39 f40 f41 f42 f43 f44 f45 f47 f48 f49 f46 c Pt fp2 pp2 fp3 pp3 fp4 pp4 fp5 pp5 fm6 fm7 fm8 fm9 fm10 fm11 fm12 fI pT gT CL fiL cdaL ccL CT fiX cdaX ccX e1 e2 e3 : Addr}
    {t1 t2 t3 t4 : Tok}
    {od13 an13 : Option Addr} {oc13 kV13 dc13 pm13 ct13 : Value} {sl13 : Array (Option Value)}
    {cd13 : Value}
    {od14 an14 : Option Addr} {oc14 kV14 dc14 pm14 ct14 : Value} {sl14 : Array (Option Value)}
    {cd14 : Value}
    {od15 an15 : Option Addr} {oc15 kV15 dc15 pm15 ct15 : Value} {sl15 : Array (Option Value)}
    {cd15 : Value}
    {od16 an16 : Option Addr} {oc16 kV16 dc16 pm16 ct16 : Value} {sl16 : Array (Option Value)}
    {cd16 : Value}
    {od17 an17 : Option Addr} {oc17 kV17 dc17 pm17 ct17 : Value} {sl17 : Array (Option Value)}
    {cd17 : Value}
    {od19 an19 : Option Addr} {oc19 kV19 dc19 pm19 ct19 : Value} {sl19 : Array (Option Value)}
    {cd19 : Value}
    {od20 an20 : Option Addr} {oc20 kV20 dc20 pm20 ct20 : Value} {sl20 : Array (Option Value)}
    {cd20 : Value}
    {od21 an21 : Option Addr} {oc21 kV21 dc21 pm21 ct21 : Value} {sl21 : Array (Option Value)}
    {cd21 : Value}
    {od22 an22 : Option Addr} {oc22 kV22 dc22 pm22 ct22 : Value} {sl22 : Array (Option Value)}
    {cd22 : Value}
    {od24 an24 : Option Addr} {oc24 kV24 dc24 pm24 ct24 : Value} {sl24 : Array (Option Value)}
    {cd24 : Value}
    {od25 an25 : Option Addr} {oc25 kV25 dc25 pm25 ct25 : Value} {sl25 : Array (Option Value)}
    {cd25 : Value}
    {od26 an26 : Option Addr} {oc26 kV26 dc26 pm26 ct26 : Value} {sl26 : Array (Option Value)}
    {cd26 : Value}
    {od28 an28 : Option Addr} {oc28 kV28 dc28 pm28 ct28 : Value} {sl28 : Array (Option Value)}
    {cd28 : Value}
    {od29 an29 : Option Addr} {oc29 kV29 dc29 pm29 ct29 : Value} {sl29 : Array (Option Value)}
    {cd29 : Value}
    {od30 an30 : Option Addr} {oc30 kV30 dc30 pm30 ct30 : Value} {sl30 : Array (Option Value)}
    {cd30 : Value}
    {od32 an32 : Option Addr} {oc32 kV32 dc32 pm32 ct32 : Value} {sl32 : Array (Option Value)}
    {cd32 : Value}
    {od33 an33 : Option Addr} {oc33 kV33 dc33 pm33 ct33 : Value} {sl33 : Array (Option Value)}
    {cd33 : Value}
    {od34 an34 : Option Addr} {oc34 kV34 dc34 pm34 ct34 : Value} {sl34 : Array (Option Value)}
    {cd34 : Value}
    {od35 an35 : Option Addr} {oc35 kV35 dc35 pm35 ct35 : Value} {sl35 : Array (Option Value)}
    {cd35 : Value}
    {od36 an36 : Option Addr} {oc36 kV36 dc36 pm36 ct36 : Value} {sl36 : Array (Option Value)}
    {cd36 : Value}
    {od37 an37 : Option Addr} {oc37 kV37 dc37 pm37 ct37 : Value} {sl37 : Array (Option Value)}
    {cd37 : Value}
    {od38 an38 : Option Addr} {oc38 kV38 dc38 pm38 ct38 : Value} {sl38 : Array (Option Value)}
    {cd38 : Value}
    {od39 an39 : Option Addr} {oc39 kV39 dc39 pm39 ct39 : Value} {sl39 : Array (Option Value)}
    {cd39 : Value}
    {od40 an40 : Option Addr} {oc40 kV40 dc40 pm40 ct40 : Value} {sl40 : Array (Option Value)}
    {cd40 : Value}
    {od41 an41 : Option Addr} {oc41 kV41 dc41 pm41 ct41 : Value} {sl41 : Array (Option Value)}
    {cd41 : Value}
    {od42 an42 : Option Addr} {oc42 kV42 dc42 pm42 ct42 : Value} {sl42 : Array (Option Value)}
    {cd42 : Value}
    {od43 an43 : Option Addr} {oc43 kV43 dc43 pm43 ct43 : Value} {sl43 : Array (Option Value)}
    {cd43 : Value}
    {od44 an44 : Option Addr} {oc44 kV44 dc44 pm44 ct44 : Value} {sl44 : Array (Option Value)}
    {cd44 : Value}
    {od45 an45 : Option Addr} {oc45 kV45 dc45 pm45 ct45 : Value} {sl45 : Array (Option Value)}
    {cd45 : Value}
    {od47 an47 : Option Addr} {oc47 kV47 dc47 pm47 ct47 : Value} {sl47 : Array (Option Value)}
    {cd47 : Value}
    {od48 an48 : Option Addr} {oc48 kV48 dc48 pm48 ct48 : Value} {sl48 : Array (Option Value)}
    {cd48 : Value}
    {od49 an49 : Option Addr} {oc49 kV49 dc49 pm49 ct49 : Value} {sl49 : Array (Option Value)}
    {cd49 : Value}
    {od46 an46 : Option Addr} {oc46 kV46 dc46 pm46 ct46 : Value} {sl46 : Array (Option Value)}
    {e0 : Value} {dd : Option Addr} {us : Array Value} {sl2 : Array (Option Value)}
    {rs2 : List Value}
    {odp2 anp2 : Option Addr} {ocp2 kVp2 dcp2 pmp2 ctp2 : Value} {slp2 : Array (Option Value)}
    {cdp2 : Value}
    {rs3 : List Value}
    {odp3 anp3 : Option Addr} {ocp3 kVp3 dcp3 pmp3 ctp3 : Value} {slp3 : Array (Option Value)}
    {cdp3 : Value}
    {rs4 : List Value}
    {odp4 anp4 : Option Addr} {ocp4 kVp4 dcp4 pmp4 ctp4 : Value} {slp4 : Array (Option Value)}
    {cdp4 : Value}
    {rs5 : List Value}
    {odp5 anp5 : Option Addr} {ocp5 kVp5 dcp5 pmp5 ctp5 : Value} {slp5 : Array (Option Value)}
    {cdp5 : Value}
    {odm6 anm6 : Option Addr} {ocm6 kVm6 dcm6 pmm6 ctm6 : Value} {slm6 : Array (Option Value)}
    {cdm6 : Value}
    {odm7 anm7 : Option Addr} {ocm7 kVm7 dcm7 pmm7 ctm7 : Value} {slm7 : Array (Option Value)}
    {cdm7 : Value}
    {odm8 anm8 : Option Addr} {ocm8 kVm8 dcm8 pmm8 ctm8 : Value} {slm8 : Array (Option Value)}
    {cdm8 : Value}
    {odm9 anm9 : Option Addr} {ocm9 kVm9 dcm9 pmm9 ctm9 : Value} {slm9 : Array (Option Value)}
    {cdm9 : Value}
    {odm10 anm10 : Option Addr} {ocm10 kVm10 dcm10 pmm10 ctm10 : Value} {slm10 : Array (Option Value)}
    {cdm10 : Value}
    {odm11 anm11 : Option Addr} {ocm11 kVm11 dcm11 pmm11 ctm11 : Value} {slm11 : Array (Option Value)}
    {cdm11 : Value}
    {odm12 anm12 : Option Addr} {ocm12 kVm12 dcm12 pmm12 ctm12 : Value} {slm12 : Array (Option Value)}
    {cdm12 : Value}
    {odI anI : Option Addr} {ocI kVI dcI pmI ctI : Value} {slI : Array (Option Value)}
    {cdI : Value}
    {rsT : List Value}
    {odT anT : Option Addr} {ocT kVT dcT pmT ctT : Value} {slT : Array (Option Value)}
    {cdT : Value}
    {nmL qqL : Str} {NL : Addr} {bsL bmL subL : List Value} {snL : List Str} {abL : Bool} {colL : Option Bool} {ddxL : Option Addr} {k0L k1L k2L k3L k5L : Option Value}
    {ocL kVL dcL pmL ctL cclL clL : Value} {odL anL cddL cldL : Option Addr} {oslL ccsL cslL : Array (Option Value)} {vsL : Array Value} {fileL : Str} {tfL : Tok}
    {nmX qqX : Str} {NX : Addr} {bsX bmX subX : List Value} {snX : List Str} {abX : Bool} {colX : Option Bool} {ddxX : Option Addr} {k0X k1X k2X k3X k5X : Option Value}
    {ocX kVX dcX pmX ctX cclX clX : Value} {odX anX cddX cldX : Option Addr} {oslX ccsX cslX : Array (Option Value)} {vsX : Array Value} {fileX : Str} {tfX : Tok}
    {bb1 bb2 bb3 : Bool}
    (X : K.In h) (T : Top q loose mean mg mb h) (hmg : mg "law" = some (.ref fa))
    (aC : PySem.W.nsIn K mainGlobals "Areas" = some (some (.ref C)))
    (n0 : PySem.W.nsIn K mainGlobals "isinstance" = some none)
    (n1 : PySem.W.nsIn K mainGlobals "int" = some none)
    (n2 : PySem.W.nsIn K mainGlobals "bool" = some none)
    (n3 : PySem.W.nsIn K mainGlobals "tuple" = some none)
    (n4 : PySem.W.nsIn K mainGlobals "str" = some none)
    (n5 : PySem.W.nsIn K mainGlobals "len" = some none)
    (n6 : PySem.W.nsIn K mainGlobals "all" = some none)
    (n7 : PySem.W.nsIn K mainGlobals "enumerate" = some none)
    (n8 : PySem.W.nsIn K mainGlobals "range" = some none)
    (n9 : PySem.W.nsIn K mainGlobals "list" = some none)
    (n10 : PySem.W.nsIn K mainGlobals "repr" = some none)
    (n11 : PySem.W.nsIn K mainGlobals "abs" = some none)
    (n12 : PySem.W.nsIn K mainGlobals "divmod" = some none)
    (n13 : PySem.W.nsIn K mainGlobals "min" = some none)
    (g1 : PySem.W.nsIn K mainGlobals "DIGITS" = some (some (.str "0123456789" t1)))
    (g2 : PySem.W.nsIn K mainGlobals "LETTERS" = some (some (.str "abcdefghijklmnopqrstuvwxyz" t2)))
    (g3 : PySem.W.nsIn K mainGlobals "MOST_NUMBER" = some (some (.int 4000 t3)))
    (g4 : PySem.W.nsIn K mainGlobals "MOST_LINES" = some (some (.int 10 t4)))
    (cpg : PySem.W.plainGet K C Str.empty = true)
    (chd : PySem.W.hasDictIn K C = true)
    (cpo : PySem.W.plainOver K C = true)
    (csa : PySem.W.findIn K (.ref C) "__setattr__" = some (some (.builtin "object.__setattr__")))
    (cnL : PySem.W.findIn K (.ref C) "own_lines" = some none)
    (cnT : PySem.W.findIn K (.ref C) "own_text" = some none)
    (ckp : PySem.W.keepIn K (.ref C) = true)
    (cmk : PySem.W.makesIn K C = true)
    (cic : PySem.W.isClsIn K C = true)
    (cty : PySem.W.typeIn K (.ref C) = some (.type "type"))
    (cne : PySem.W.findIn K (.ref C) "__ne__" = some (some (.builtin "object.__ne__")))
    (cmr : PySem.W.mroIn K C (.type "object") = some true)
    (cca : PySem.W.findIn K (.ref C) "__class__" = some (some (.builtin "object.__class__")))
    (ccs : PySem.W.specialIn K (.builtin "object.__class__") "__get__" = some (some (.builtin "getset_descriptor.__get__")))
    (cct : PySem.W.takesIn K (.builtin "object.__class__") = some true)
    (s0 : PySem.W.subIn K (.type "str") (.ref C) = some false)
    (s1 : PySem.W.subIn K (.type "tuple") (.ref C) = some false)
    (s2 : PySem.W.subIn K (.type "NoneType") (.ref C) = some false)
    (s3 : PySem.W.subIn K (.type "int") (.ref C) = some false)
    (s4 : PySem.W.subIn K (.type "list") (.ref C) = some false)
    (s5 : PySem.W.subIn K (.type "dict") (.ref C) = some false)
    (ivl : PySem.W.nsIn K mainGlobals "super" = some none)
    (a13 : PySem.W.nsIn K mainGlobals "is_integer" = some (some (.ref f13)))
    (l13 : K.lookup f13 = some ⟨oc13, od13, .func (PySem.W.fnOf "is_integer" "is_integer" (defArgs (topS 13)) (defBody (topS 13)) (defScope (topS 13)) .none kV13 dc13 pm13 an13 cd13 ct13), sl13⟩)
    (c13 : PySem.W.codeIn K cd13 "is_integer" = true)
    (k13 : PySem.W.keepIn K (.ref f13) = true)
    (a14 : PySem.W.nsIn K mainGlobals "is_within" = some (some (.ref f14)))
    (l14 : K.lookup f14 = some ⟨oc14, od14, .func (PySem.W.fnOf "is_within" "is_within" (defArgs (topS 14)) (defBody (topS 14)) (defScope (topS 14)) .none kV14 dc14 pm14 an14 cd14 ct14), sl14⟩)
    (c14 : PySem.W.codeIn K cd14 "is_within" = true)
    (k14 : PySem.W.keepIn K (.ref f14) = true)
    (a15 : PySem.W.nsIn K mainGlobals "is_tuple_of" = some (some (.ref f15)))
    (l15 : K.lookup f15 = some ⟨oc15, od15, .func (PySem.W.fnOf "is_tuple_of" "is_tuple_of" (defArgs (topS 15)) (defBody (topS 15)) (defScope (topS 15)) .none kV15 dc15 pm15 an15 cd15 ct15), sl15⟩)
    (c15 : PySem.W.codeIn K cd15 "is_tuple_of" = true)
    (k15 : PySem.W.keepIn K (.ref f15) = true)
    (a16 : PySem.W.nsIn K mainGlobals "is_name" = some (some (.ref f16)))
    (l16 : K.lookup f16 = some ⟨oc16, od16, .func (PySem.W.fnOf "is_name" "is_name" (defArgs (topS 16)) (defBody (topS 16)) (defScope (topS 16)) .none kV16 dc16 pm16 an16 cd16 ct16), sl16⟩)
    (c16 : PySem.W.codeIn K cd16 "is_name" = true)
    (k16 : PySem.W.keepIn K (.ref f16) = true)
    (a17 : PySem.W.nsIn K mainGlobals "written_natural" = some (some (.ref f17)))
    (l17 : K.lookup f17 = some ⟨oc17, od17, .func (PySem.W.fnOf "written_natural" "written_natural" (defArgs (topS 17)) (defBody (topS 17)) (defScope (topS 17)) .none kV17 dc17 pm17 an17 cd17 ct17), sl17⟩)
    (c17 : PySem.W.codeIn K cd17 "written_natural" = true)
    (k17 : PySem.W.keepIn K (.ref f17) = true)
    (a19 : PySem.W.nsIn K mainGlobals "is_stretch" = some (some (.ref f19)))
    (l19 : K.lookup f19 = some ⟨oc19, od19, .func (PySem.W.fnOf "is_stretch" "is_stretch" (defArgs (topS 19)) (defBody (topS 19)) (defScope (topS 19)) .none kV19 dc19 pm19 an19 cd19 ct19), sl19⟩)
    (c19 : PySem.W.codeIn K cd19 "is_stretch" = true)
    (k19 : PySem.W.keepIn K (.ref f19) = true)
    (a20 : PySem.W.nsIn K mainGlobals "check_stretch" = some (some (.ref f20)))
    (l20 : K.lookup f20 = some ⟨oc20, od20, .func (PySem.W.fnOf "check_stretch" "check_stretch" (defArgs (topS 20)) (defBody (topS 20)) (defScope (topS 20)) .none kV20 dc20 pm20 an20 cd20 ct20), sl20⟩)
    (c20 : PySem.W.codeIn K cd20 "check_stretch" = true)
    (k20 : PySem.W.keepIn K (.ref f20) = true)
    (a21 : PySem.W.nsIn K mainGlobals "written_stretch" = some (some (.ref f21)))
    (l21 : K.lookup f21 = some ⟨oc21, od21, .func (PySem.W.fnOf "written_stretch" "written_stretch" (defArgs (topS 21)) (defBody (topS 21)) (defScope (topS 21)) .none kV21 dc21 pm21 an21 cd21 ct21), sl21⟩)
    (c21 : PySem.W.codeIn K cd21 "written_stretch" = true)
    (k21 : PySem.W.keepIn K (.ref f21) = true)
    (a22 : PySem.W.nsIn K mainGlobals "stretch_told" = some (some (.ref f22)))
    (l22 : K.lookup f22 = some ⟨oc22, od22, .func (PySem.W.fnOf "stretch_told" "stretch_told" (defArgs (topS 22)) (defBody (topS 22)) (defScope (topS 22)) .none kV22 dc22 pm22 an22 cd22 ct22), sl22⟩)
    (c22 : PySem.W.codeIn K cd22 "stretch_told" = true)
    (k22 : PySem.W.keepIn K (.ref f22) = true)
    (a24 : PySem.W.nsIn K mainGlobals "is_line" = some (some (.ref f24)))
    (l24 : K.lookup f24 = some ⟨oc24, od24, .func (PySem.W.fnOf "is_line" "is_line" (defArgs (topS 24)) (defBody (topS 24)) (defScope (topS 24)) .none kV24 dc24 pm24 an24 cd24 ct24), sl24⟩)
    (c24 : PySem.W.codeIn K cd24 "is_line" = true)
    (k24 : PySem.W.keepIn K (.ref f24) = true)
    (a25 : PySem.W.nsIn K mainGlobals "line_text" = some (some (.ref f25)))
    (l25 : K.lookup f25 = some ⟨oc25, od25, .func (PySem.W.fnOf "line_text" "line_text" (defArgs (topS 25)) (defBody (topS 25)) (defScope (topS 25)) .none kV25 dc25 pm25 an25 cd25 ct25), sl25⟩)
    (c25 : PySem.W.codeIn K cd25 "line_text" = true)
    (k25 : PySem.W.keepIn K (.ref f25) = true)
    (a26 : PySem.W.nsIn K mainGlobals "line_told" = some (some (.ref f26)))
    (l26 : K.lookup f26 = some ⟨oc26, od26, .func (PySem.W.fnOf "line_told" "line_told" (defArgs (topS 26)) (defBody (topS 26)) (defScope (topS 26)) .none kV26 dc26 pm26 an26 cd26 ct26), sl26⟩)
    (c26 : PySem.W.codeIn K cd26 "line_told" = true)
    (k26 : PySem.W.keepIn K (.ref f26) = true)
    (a28 : PySem.W.nsIn K mainGlobals "areas_told" = some (some (.ref f28)))
    (l28 : K.lookup f28 = some ⟨oc28, od28, .func (PySem.W.fnOf "areas_told" "areas_told" (defArgs (topS 28)) (defBody (topS 28)) (defScope (topS 28)) .none kV28 dc28 pm28 an28 cd28 ct28), sl28⟩)
    (c28 : PySem.W.codeIn K cd28 "areas_told" = true)
    (k28 : PySem.W.keepIn K (.ref f28) = true)
    (a29 : PySem.W.nsIn K mainGlobals "check_area" = some (some (.ref f29)))
    (l29 : K.lookup f29 = some ⟨oc29, od29, .func (PySem.W.fnOf "check_area" "check_area" (defArgs (topS 29)) (defBody (topS 29)) (defScope (topS 29)) .none kV29 dc29 pm29 an29 cd29 ct29), sl29⟩)
    (c29 : PySem.W.codeIn K cd29 "check_area" = true)
    (k29 : PySem.W.keepIn K (.ref f29) = true)
    (a30 : PySem.W.nsIn K mainGlobals "with_stretch" = some (some (.ref f30)))
    (l30 : K.lookup f30 = some ⟨oc30, od30, .func (PySem.W.fnOf "with_stretch" "with_stretch" (defArgs (topS 30)) (defBody (topS 30)) (defScope (topS 30)) .none kV30 dc30 pm30 an30 cd30 ct30), sl30⟩)
    (c30 : PySem.W.codeIn K cd30 "with_stretch" = true)
    (k30 : PySem.W.keepIn K (.ref f30) = true)
    (a32 : PySem.W.nsIn K mainGlobals "_law_jar" = some (some (.ref f32)))
    (l32 : K.lookup f32 = some ⟨oc32, od32, .func (PySem.W.fnOf "_law_jar" "_law_jar" (defArgs (topS 32)) (defBody (topS 32)) (defScope (topS 32)) .none kV32 dc32 pm32 an32 cd32 ct32), sl32⟩)
    (c32 : PySem.W.codeIn K cd32 "_law_jar" = true)
    (k32 : PySem.W.keepIn K (.ref f32) = true)
    (a33 : PySem.W.nsIn K mainGlobals "_law_draw" = some (some (.ref f33)))
    (l33 : K.lookup f33 = some ⟨oc33, od33, .func (PySem.W.fnOf "_law_draw" "_law_draw" (defArgs (topS 33)) (defBody (topS 33)) (defScope (topS 33)) .none kV33 dc33 pm33 an33 cd33 ct33), sl33⟩)
    (c33 : PySem.W.codeIn K cd33 "_law_draw" = true)
    (k33 : PySem.W.keepIn K (.ref f33) = true)
    (a34 : PySem.W.nsIn K mainGlobals "_law_pick" = some (some (.ref f34)))
    (l34 : K.lookup f34 = some ⟨oc34, od34, .func (PySem.W.fnOf "_law_pick" "_law_pick" (defArgs (topS 34)) (defBody (topS 34)) (defScope (topS 34)) .none kV34 dc34 pm34 an34 cd34 ct34), sl34⟩)
    (c34 : PySem.W.codeIn K cd34 "_law_pick" = true)
    (k34 : PySem.W.keepIn K (.ref f34) = true)
    (a35 : PySem.W.nsIn K mainGlobals "_law_tags" = some (some (.ref f35)))
    (l35 : K.lookup f35 = some ⟨oc35, od35, .func (PySem.W.fnOf "_law_tags" "_law_tags" (defArgs (topS 35)) (defBody (topS 35)) (defScope (topS 35)) .none kV35 dc35 pm35 an35 cd35 ct35), sl35⟩)
    (c35 : PySem.W.codeIn K cd35 "_law_tags" = true)
    (k35 : PySem.W.keepIn K (.ref f35) = true)
    (a36 : PySem.W.nsIn K mainGlobals "_law_drawn" = some (some (.ref f36)))
    (l36 : K.lookup f36 = some ⟨oc36, od36, .func (PySem.W.fnOf "_law_drawn" "_law_drawn" (defArgs (topS 36)) (defBody (topS 36)) (defScope (topS 36)) .none kV36 dc36 pm36 an36 cd36 ct36), sl36⟩)
    (c36 : PySem.W.codeIn K cd36 "_law_drawn" = true)
    (k36 : PySem.W.keepIn K (.ref f36) = true)
    (a37 : PySem.W.nsIn K mainGlobals "_law_word" = some (some (.ref f37)))
    (l37 : K.lookup f37 = some ⟨oc37, od37, .func (PySem.W.fnOf "_law_word" "_law_word" (defArgs (topS 37)) (defBody (topS 37)) (defScope (topS 37)) .none kV37 dc37 pm37 an37 cd37 ct37), sl37⟩)
    (c37 : PySem.W.codeIn K cd37 "_law_word" = true)
    (k37 : PySem.W.keepIn K (.ref f37) = true)
    (a38 : PySem.W.nsIn K mainGlobals "_law_page" = some (some (.ref f38)))
    (l38 : K.lookup f38 = some ⟨oc38, od38, .func (PySem.W.fnOf "_law_page" "_law_page" (defArgs (topS 38)) (defBody (topS 38)) (defScope (topS 38)) .none kV38 dc38 pm38 an38 cd38 ct38), sl38⟩)
    (c38 : PySem.W.codeIn K cd38 "_law_page" = true)
    (k38 : PySem.W.keepIn K (.ref f38) = true)
    (a39 : PySem.W.nsIn K mainGlobals "_law_number" = some (some (.ref f39)))
    (l39 : K.lookup f39 = some ⟨oc39, od39, .func (PySem.W.fnOf "_law_number" "_law_number" (defArgs (topS 39)) (defBody (topS 39)) (defScope (topS 39)) .none kV39 dc39 pm39 an39 cd39 ct39), sl39⟩)
    (c39 : PySem.W.codeIn K cd39 "_law_number" = true)
    (k39 : PySem.W.keepIn K (.ref f39) = true)
    (a40 : PySem.W.nsIn K mainGlobals "_law_span_told" = some (some (.ref f40)))
    (l40 : K.lookup f40 = some ⟨oc40, od40, .func (PySem.W.fnOf "_law_span_told" "_law_span_told" (defArgs (topS 40)) (defBody (topS 40)) (defScope (topS 40)) .none kV40 dc40 pm40 an40 cd40 ct40), sl40⟩)
    (c40 : PySem.W.codeIn K cd40 "_law_span_told" = true)
    (k40 : PySem.W.keepIn K (.ref f40) = true)
    (a41 : PySem.W.nsIn K mainGlobals "_law_is_tag" = some (some (.ref f41)))
    (l41 : K.lookup f41 = some ⟨oc41, od41, .func (PySem.W.fnOf "_law_is_tag" "_law_is_tag" (defArgs (topS 41)) (defBody (topS 41)) (defScope (topS 41)) .none kV41 dc41 pm41 an41 cd41 ct41), sl41⟩)
    (c41 : PySem.W.codeIn K cd41 "_law_is_tag" = true)
    (k41 : PySem.W.keepIn K (.ref f41) = true)
    (a42 : PySem.W.nsIn K mainGlobals "_law_told" = some (some (.ref f42)))
    (l42 : K.lookup f42 = some ⟨oc42, od42, .func (PySem.W.fnOf "_law_told" "_law_told" (defArgs (topS 42)) (defBody (topS 42)) (defScope (topS 42)) .none kV42 dc42 pm42 an42 cd42 ct42), sl42⟩)
    (c42 : PySem.W.codeIn K cd42 "_law_told" = true)
    (k42 : PySem.W.keepIn K (.ref f42) = true)
    (a43 : PySem.W.nsIn K mainGlobals "_law_bent" = some (some (.ref f43)))
    (l43 : K.lookup f43 = some ⟨oc43, od43, .func (PySem.W.fnOf "_law_bent" "_law_bent" (defArgs (topS 43)) (defBody (topS 43)) (defScope (topS 43)) .none kV43 dc43 pm43 an43 cd43 ct43), sl43⟩)
    (c43 : PySem.W.codeIn K cd43 "_law_bent" = true)
    (k43 : PySem.W.keepIn K (.ref f43) = true)
    (a44 : PySem.W.nsIn K mainGlobals "_law_heard" = some (some (.ref f44)))
    (l44 : K.lookup f44 = some ⟨oc44, od44, .func (PySem.W.fnOf "_law_heard" "_law_heard" (defArgs (topS 44)) (defBody (topS 44)) (defScope (topS 44)) .none kV44 dc44 pm44 an44 cd44 ct44), sl44⟩)
    (c44 : PySem.W.codeIn K cd44 "_law_heard" = true)
    (k44 : PySem.W.keepIn K (.ref f44) = true)
    (a45 : PySem.W.nsIn K mainGlobals "_law_shows" = some (some (.ref f45)))
    (l45 : K.lookup f45 = some ⟨oc45, od45, .func (PySem.W.fnOf "_law_shows" "_law_shows" (defArgs (topS 45)) (defBody (topS 45)) (defScope (topS 45)) .none kV45 dc45 pm45 an45 cd45 ct45), sl45⟩)
    (c45 : PySem.W.codeIn K cd45 "_law_shows" = true)
    (k45 : PySem.W.keepIn K (.ref f45) = true)
    (a47 : PySem.W.nsIn K mainGlobals "_law_changed_right" = some (some (.ref f47)))
    (l47 : K.lookup f47 = some ⟨oc47, od47, .func (PySem.W.fnOf "_law_changed_right" "_law_changed_right" (defArgs (topS 47)) (defBody (topS 47)) (defScope (topS 47)) .none kV47 dc47 pm47 an47 cd47 ct47), sl47⟩)
    (c47 : PySem.W.codeIn K cd47 "_law_changed_right" = true)
    (k47 : PySem.W.keepIn K (.ref f47) = true)
    (a48 : PySem.W.nsIn K mainGlobals "_law_right" = some (some (.ref f48)))
    (l48 : K.lookup f48 = some ⟨oc48, od48, .func (PySem.W.fnOf "_law_right" "_law_right" (defArgs (topS 48)) (defBody (topS 48)) (defScope (topS 48)) .none kV48 dc48 pm48 an48 cd48 ct48), sl48⟩)
    (c48 : PySem.W.codeIn K cd48 "_law_right" = true)
    (k48 : PySem.W.keepIn K (.ref f48) = true)
    (a49 : PySem.W.nsIn K mainGlobals "law" = some (some (.ref f49)))
    (l49 : K.lookup f49 = some ⟨oc49, od49, .func (PySem.W.fnOf "law" "law" (defArgs (topS 49)) (defBody (topS 49)) (defScope (topS 49)) .none kV49 dc49 pm49 an49 cd49 ct49), sl49⟩)
    (c49 : PySem.W.codeIn K cd49 "law" = true)
    (k49 : PySem.W.keepIn K (.ref f49) = true)
    (a46 : PySem.W.nsIn K mainGlobals "_law_read_right" = some (some (.ref f46)))
    (l46 : K.lookup f46 = some ⟨oc46, od46, .func (PySem.W.fnOf "_law_read_right" "_law_read_right" (defArgs (topS 46)) (defBody (topS 46)) (defScope (topS 46)) .none kV46 dc46 pm46 an46 (.ref c) ct46), sl46⟩)
    (c46 : PySem.W.codeIn K (.ref c) "_law_read_right" = true)
    (k46 : PySem.W.keepIn K (.ref f46) = true)
    (lc : K.lookup c = some ⟨e0, dd, .fields us, sl2⟩)
    (h11 : us[11]? = some (.ref Pt))
    (nT : K.lookup Pt = none)
    (hrec : ((recsOf q).any fun e => e.name == ("_law_read_right" : Str)) = true)
    (pa2 : PySem.W.findIn K (.ref C) "lines" = some (some (.ref pp2)))
    (ps2 : PySem.W.specialIn K (.ref pp2) "__get__" = some (some (.builtin "property.__get__")))
    (pt2 : PySem.W.takesIn K (.ref pp2) = some true)
    (pr2 : PySem.W.recIn K pp2 "property" = some (.ref fp2 :: rs2))
    (lp2 : K.lookup fp2 = some ⟨ocp2, odp2, .func (PySem.W.fnOf "lines" "Areas.lines" (defArgs (sAr 2)) (defBody (sAr 2)) (defScope (sAr 2)) .none kVp2 dcp2 pmp2 anp2 cdp2 ctp2), slp2⟩)
    (cp2 : PySem.W.codeIn K cdp2 "Areas.lines" = true)
    (kp2 : PySem.W.keepIn K (.ref fp2) = true)
    (pa3 : PySem.W.findIn K (.ref C) "names" = some (some (.ref pp3)))
    (ps3 : PySem.W.specialIn K (.ref pp3) "__get__" = some (some (.builtin "property.__get__")))
    (pt3 : PySem.W.takesIn K (.ref pp3) = some true)
    (pr3 : PySem.W.recIn K pp3 "property" = some (.ref fp3 :: rs3))
    (lp3 : K.lookup fp3 = some ⟨ocp3, odp3, .func (PySem.W.fnOf "names" "Areas.names" (defArgs (sAr 3)) (defBody (sAr 3)) (defScope (sAr 3)) .none kVp3 dcp3 pmp3 anp3 cdp3 ctp3), slp3⟩)
    (cp3 : PySem.W.codeIn K cdp3 "Areas.names" = true)
    (kp3 : PySem.W.keepIn K (.ref fp3) = true)
    (pa4 : PySem.W.findIn K (.ref C) "leaves" = some (some (.ref pp4)))
    (ps4 : PySem.W.specialIn K (.ref pp4) "__get__" = some (some (.builtin "property.__get__")))
    (pt4 : PySem.W.takesIn K (.ref pp4) = some true)
    (pr4 : PySem.W.recIn K pp4 "property" = some (.ref fp4 :: rs4))
    (lp4 : K.lookup fp4 = some ⟨ocp4, odp4, .func (PySem.W.fnOf "leaves" "Areas.leaves" (defArgs (sAr 4)) (defBody (sAr 4)) (defScope (sAr 4)) .none kVp4 dcp4 pmp4 anp4 cdp4 ctp4), slp4⟩)
    (cp4 : PySem.W.codeIn K cdp4 "Areas.leaves" = true)
    (kp4 : PySem.W.keepIn K (.ref fp4) = true)
    (pa5 : PySem.W.findIn K (.ref C) "text" = some (some (.ref pp5)))
    (ps5 : PySem.W.specialIn K (.ref pp5) "__get__" = some (some (.builtin "property.__get__")))
    (pt5 : PySem.W.takesIn K (.ref pp5) = some true)
    (pr5 : PySem.W.recIn K pp5 "property" = some (.ref fp5 :: rs5))
    (lp5 : K.lookup fp5 = some ⟨ocp5, odp5, .func (PySem.W.fnOf "text" "Areas.text" (defArgs (sAr 5)) (defBody (sAr 5)) (defScope (sAr 5)) .none kVp5 dcp5 pmp5 anp5 cdp5 ctp5), slp5⟩)
    (cp5 : PySem.W.codeIn K cdp5 "Areas.text" = true)
    (kp5 : PySem.W.keepIn K (.ref fp5) = true)
    (ma6 : PySem.W.findIn K (.ref C) "stretch" = some (some (.ref fm6)))
    (mi6 : PySem.W.isFn K (.ref fm6) = true)
    (lm6 : K.lookup fm6 = some ⟨ocm6, odm6, .func (PySem.W.fnOf "stretch" "Areas.stretch" (defArgs (sAr 6)) (defBody (sAr 6)) (defScope (sAr 6)) .none kVm6 dcm6 pmm6 anm6 cdm6 ctm6), slm6⟩)
    (cm6 : PySem.W.codeIn K cdm6 "Areas.stretch" = true)
    (km6 : PySem.W.keepIn K (.ref fm6) = true)
    (ma7 : PySem.W.findIn K (.ref C) "inner" = some (some (.ref fm7)))
    (mi7 : PySem.W.isFn K (.ref fm7) = true)
    (lm7 : K.lookup fm7 = some ⟨ocm7, odm7, .func (PySem.W.fnOf "inner" "Areas.inner" (defArgs (sAr 7)) (defBody (sAr 7)) (defScope (sAr 7)) .none kVm7 dcm7 pmm7 anm7 cdm7 ctm7), slm7⟩)
    (cm7 : PySem.W.codeIn K cdm7 "Areas.inner" = true)
    (km7 : PySem.W.keepIn K (.ref fm7) = true)
    (ma8 : PySem.W.findIn K (.ref C) "changed" = some (some (.ref fm8)))
    (mi8 : PySem.W.isFn K (.ref fm8) = true)
    (lm8 : K.lookup fm8 = some ⟨ocm8, odm8, .func (PySem.W.fnOf "changed" "Areas.changed" (defArgs (sAr 8)) (defBody (sAr 8)) (defScope (sAr 8)) .none kVm8 dcm8 pmm8 anm8 cdm8 ctm8), slm8⟩)
    (cm8 : PySem.W.codeIn K cdm8 "Areas.changed" = true)
    (km8 : PySem.W.keepIn K (.ref fm8) = true)
    (ma9 : PySem.W.findIn K (.ref C) "__len__" = some (some (.ref fm9)))
    (mi9 : PySem.W.isFn K (.ref fm9) = true)
    (lm9 : K.lookup fm9 = some ⟨ocm9, odm9, .func (PySem.W.fnOf "__len__" "Areas.__len__" (defArgs (sAr 9)) (defBody (sAr 9)) (defScope (sAr 9)) .none kVm9 dcm9 pmm9 anm9 cdm9 ctm9), slm9⟩)
    (cm9 : PySem.W.codeIn K cdm9 "Areas.__len__" = true)
    (km9 : PySem.W.keepIn K (.ref fm9) = true)
    (ma10 : PySem.W.findIn K (.ref C) "__bool__" = some (some (.ref fm10)))
    (mi10 : PySem.W.isFn K (.ref fm10) = true)
    (lm10 : K.lookup fm10 = some ⟨ocm10, odm10, .func (PySem.W.fnOf "__bool__" "Areas.__bool__" (defArgs (sAr 10)) (defBody (sAr 10)) (defScope (sAr 10)) .none kVm10 dcm10 pmm10 anm10 cdm10 ctm10), slm10⟩)
    (cm10 : PySem.W.codeIn K cdm10 "Areas.__bool__" = true)
    (km10 : PySem.W.keepIn K (.ref fm10) = true)
    (ma11 : PySem.W.findIn K (.ref C) "__str__" = some (some (.ref fm11)))
    (mi11 : PySem.W.isFn K (.ref fm11) = true)
    (lm11 : K.lookup fm11 = some ⟨ocm11, odm11, .func (PySem.W.fnOf "__str__" "Areas.__str__" (defArgs (sAr 11)) (defBody (sAr 11)) (defScope (sAr 11)) .none kVm11 dcm11 pmm11 anm11 cdm11 ctm11), slm11⟩)
    (cm11 : PySem.W.codeIn K cdm11 "Areas.__str__" = true)
    (km11 : PySem.W.keepIn K (.ref fm11) = true)
    (ma12 : PySem.W.findIn K (.ref C) "__eq__" = some (some (.ref fm12)))
    (mi12 : PySem.W.isFn K (.ref fm12) = true)
    (lm12 : K.lookup fm12 = some ⟨ocm12, odm12, .func (PySem.W.fnOf "__eq__" "Areas.__eq__" (defArgs (sAr 12)) (defBody (sAr 12)) (defScope (sAr 12)) .none kVm12 dcm12 pmm12 anm12 cdm12 ctm12), slm12⟩)
    (cm12 : PySem.W.codeIn K cdm12 "Areas.__eq__" = true)
    (km12 : PySem.W.keepIn K (.ref fm12) = true)
    (aI : PySem.W.findIn K (.ref C) "__init__" = some (some (.ref fI)))
    (iI : PySem.W.isFn K (.ref fI) = true)
    (lI : K.lookup fI = some ⟨ocI, odI, .func (PySem.W.fnOf "__init__" "Areas.__init__" (defArgs (sAr 0)) (defBody (sAr 0)) (defScope (sAr 0)) .none kVI dcI pmI anI cdI ctI), slI⟩)
    (cI : PySem.W.codeIn K cdI "Areas.__init__" = true)
    (kI : PySem.W.keepIn K (.ref fI) = true)
    (rd : PySem.W.readsIn K C (.type "type") = true)
    (rg : PySem.W.specialIn K (.ref C) "__getattribute__" = some (some (.builtin "type.__getattribute__")))
    (ta : PySem.W.findCls K (.ref C) (.type "type") "told" = some (.get (.builtin "classmethod.__get__") (.ref pT) .none (.ref C)))
    (tr : PySem.W.recIn K pT "classmethod" = some (.ref gT :: rsT))
    (tf : PySem.W.fnIn K gT = true)
    (lT : K.lookup gT = some ⟨ocT, odT, .func (PySem.W.fnOf "told" "Areas.told" (defArgs (sAr 1)) (defBody (sAr 1)) (defScope (sAr 1)) .none kVT dcT pmT anT cdT ctT), slT⟩)
    (cT : PySem.W.codeIn K cdT "Areas.told" = true)
    (kT : PySem.W.keepIn K (.ref gT) = true)
    (xaL : PySem.W.nsIn K mainGlobals "InvalidLines" = some (some (.ref CL)))
    (xcL : K.lookup CL = some (excClassObj nmL qqL CL NL bsL bmL true snL subL abL colL ddxL k0L k1L k2L k3L k5L "ValueError.__new__"))
    (xbL : PySem.HandSPX.refsVE bmL = true)
    (xsL : PySem.W.findIn K (.ref CL) "__setattr__" = some (some (.builtin "object.__setattr__")))
    (xnL : PySem.W.findIn K (.ref CL) "index" = some none)
    (xiL : PySem.W.findIn K (.ref CL) "__init__" = some (some (.ref fiL)))
    (xtL : PySem.W.typeIn K (.ref fiL) = some (.type "function"))
    (xkL : PySem.W.keepIn K (.ref CL) = true)
    (xeL : PySem.W.subIn K (.ref CL) (.type "BaseException") = some true)
    (xyL : PySem.W.typeIn K (.ref CL) = some (.type "type"))
    (xoL : PySem.W.nsIn K cStatics "thirdparty.any" = some none)
    (xuL : PySem.W.ks_superIn K CL CL "__init__" = some (some (.builtin "ValueError.__init__")))
    (xvL : PySem.W.subIn K (.ref CL) (.type "ValueError") = some true)
    (xmL : PySem.W.mroIn K CL (.ref CL) = some true)
    (xlL : K.lookup fiL = some ⟨ocL, odL, .func (PySem.W.ksFn "__init__" "InvalidLines.__init__" (defArgs (inClass (topS 6) 0)) (defBody (inClass (topS 6) 0)) (defScope (inClass (topS 6) 0)) .none kVL dcL pmL anL (.ref cdaL) ctL ccL), oslL⟩)
    (xdL : PySem.W.codeIn K (.ref cdaL) "InvalidLines.__init__" = true)
    (xfL : K.lookup cdaL = some ⟨cclL, cddL, .fields vsL, ccsL⟩)
    (xgL : vsL[2]? = some (.str fileL tfL))
    (xhL : ((P.main.file : Str) == fileL) = true)
    (xjL : K.lookup ccL = some ⟨clL, cldL, .cell (some (.ref CL)), cslL⟩)
    (xwL : (P.main.scope.names.lookup ("super" : Str)).isSome = false)
    (xqL : PySem.W.isClsIn K CL = true)
    (xaX : PySem.W.nsIn K mainGlobals "InvalidText" = some (some (.ref CT)))
    (xcX : K.lookup CT = some (excClassObj nmX qqX CT NX bsX bmX true snX subX abX colX ddxX k0X k1X k2X k3X k5X "ValueError.__new__"))
    (xbX : PySem.HandSPX.refsVE bmX = true)
    (xsX : PySem.W.findIn K (.ref CT) "__setattr__" = some (some (.builtin "object.__setattr__")))
    (xnX : PySem.W.findIn K (.ref CT) "given" = some none)
    (xiX : PySem.W.findIn K (.ref CT) "__init__" = some (some (.ref fiX)))
    (xtX : PySem.W.typeIn K (.ref fiX) = some (.type "function"))
    (xkX : PySem.W.keepIn K (.ref CT) = true)
    (xeX : PySem.W.subIn K (.ref CT) (.type "BaseException") = some true)
    (xyX : PySem.W.typeIn K (.ref CT) = some (.type "type"))
    (xoX : PySem.W.nsIn K cStatics "thirdparty.any" = some none)
    (xuX : PySem.W.ks_superIn K CT CT "__init__" = some (some (.builtin "ValueError.__init__")))
    (xvX : PySem.W.subIn K (.ref CT) (.type "ValueError") = some true)
    (xmX : PySem.W.mroIn K CT (.ref CT) = some true)
    (xlX : K.lookup fiX = some ⟨ocX, odX, .func (PySem.W.ksFn "__init__" "InvalidText.__init__" (defArgs (inClass (topS 4) 0)) (defBody (inClass (topS 4) 0)) (defScope (inClass (topS 4) 0)) .none kVX dcX pmX anX (.ref cdaX) ctX ccX), oslX⟩)
    (xdX : PySem.W.codeIn K (.ref cdaX) "InvalidText.__init__" = true)
    (xfX : K.lookup cdaX = some ⟨cclX, cddX, .fields vsX, ccsX⟩)
    (xgX : vsX[2]? = some (.str fileX tfX))
    (xhX : ((P.main.file : Str) == fileX) = true)
    (xjX : K.lookup ccX = some ⟨clX, cldX, .cell (some (.ref CT)), cslX⟩)
    (xwX : (P.main.scope.names.lookup ("super" : Str)).isSome = false)
    (xqX : PySem.W.isClsIn K CT = true)
    (eLL : PySem.W.subIn K (.ref CL) (.ref CL) = some true)
    (yga : PySem.W.findIn K (.ref CT) "__getattribute__" = some (some (.builtin "BaseException.__getattribute__")))
    (ygg : PySem.W.findIn K (.ref CT) "__getattr__" = some none)
    (yhd : PySem.W.hasDictIn K CT = true)
    (za1 : PySem.W.nsIn K mainGlobals "WrongValue" = some (some (.ref e1)))
    (zb1 : PySem.W.subIn K (.ref e1) (.type "BaseException") = some true)
    (zi1 : PySem.W.isClsIn K e1 = true)
    (zt1 : PySem.W.typeIn K (.ref e1) = some (.type "type"))
    (zs1 : PySem.W.subIn K (.ref CT) (.ref e1) = some bb1)
    (za2 : PySem.W.nsIn K mainGlobals "WrongName" = some (some (.ref e2)))
    (zb2 : PySem.W.subIn K (.ref e2) (.type "BaseException") = some true)
    (zi2 : PySem.W.isClsIn K e2 = true)
    (zt2 : PySem.W.typeIn K (.ref e2) = some (.type "type"))
    (zs2 : PySem.W.subIn K (.ref CT) (.ref e2) = some bb2)
    (za3 : PySem.W.nsIn K mainGlobals "NotPossible" = some (some (.ref e3)))
    (zb3 : PySem.W.subIn K (.ref e3) (.type "BaseException") = some true)
    (zi3 : PySem.W.isClsIn K e3 = true)
    (zt3 : PySem.W.typeIn K (.ref e3) = some (.type "type"))
    (zs3 : PySem.W.subIn K (.ref CT) (.ref e3) = some bb3)
    (zz : (bb1 || (bb2 || (bb3 || false))) = true)
    : ∃ (fd : FuncData) (c Pt : Addr), h.get? Pt = some { cls := .none, data := .fields #[] } ∧ K.lookup Pt = none ∧ PySem.W.CodeHd h c Pt ∧ (∀ (s : Shared) (u : Value), K.In s.heap → BindsTo s fd ⟨[u], []⟩ [("_law_script", u)]) ∧
        ∀ base : Heap, K.In base → base.Ns mainGlobals mg → LamX.TabB base mg c Pt → FnG P w K mg base 14 fa fd ["_law_script"] (spLaw K [(Pt, qL)]) := by
  have G := mk_glb X T.g n0 n1 n2 n3 n4 n5 n6 n7 n8 n9 n10 n11 n12 n13 g1 g2 g3 g4
  have AT : ArT K mg C := ⟨⟨cpg, chd, cpo, csa⟩, cnL, cnT, PySem.W.mg_of X T.g aC, ckp⟩
  have d13 : DnE K mg "is_integer" 13 ["value"] := mk_dn X T.g a13 l13 c13 k13 fun _ _ _ _ _ _ us hl => match us, hl with | [_], _ => rfl
  have d14 : DnE K mg "is_within" 14 ["value", "least", "greatest"] := mk_dn X T.g a14 l14 c14 k14 fun _ _ _ _ _ _ us hl => match us, hl with | [_, _, _], _ => rfl
  have d15 : DnE K mg "is_tuple_of" 15 ["value", "many"] := mk_dn X T.g a15 l15 c15 k15 fun _ _ _ _ _ _ us hl => match us, hl with | [_, _], _ => rfl
  have d16 : DnE K mg "is_name" 16 ["value"] := mk_dn X T.g a16 l16 c16 k16 fun _ _ _ _ _ _ us hl => match us, hl with | [_], _ => rfl
  have d17 : DnE K mg "written_natural" 17 ["word"] := mk_dn X T.g a17 l17 c17 k17 fun _ _ _ _ _ _ us hl => match us, hl with | [_], _ => rfl
  have d19 : DnE K mg "is_stretch" 19 ["value"] := mk_dn X T.g a19 l19 c19 k19 fun _ _ _ _ _ _ us hl => match us, hl with | [_], _ => rfl
  have d20 : DnE K mg "check_stretch" 20 ["value"] := mk_dn X T.g a20 l20 c20 k20 fun _ _ _ _ _ _ us hl => match us, hl with | [_], _ => rfl
  have d21 : DnE K mg "written_stretch" 21 ["stretch"] := mk_dn X T.g a21 l21 c21 k21 fun _ _ _ _ _ _ us hl => match us, hl with | [_], _ => rfl
  have d22 : DnE K mg "stretch_told" 22 ["word"] := mk_dn X T.g a22 l22 c22 k22 fun _ _ _ _ _ _ us hl => match us, hl with | [_], _ => rfl
  have d24 : DnE K mg "is_line" 24 ["value", "names"] := mk_dn X T.g a24 l24 c24 k24 fun _ _ _ _ _ _ us hl => match us, hl with | [_, _], _ => rfl
  have d25 : DnE K mg "line_text" 25 ["line", "word"] := mk_dn X T.g a25 l25 c25 k25 fun _ _ _ _ _ _ us hl => match us, hl with | [_, _], _ => rfl
  have d26 : DnE K mg "line_told" 26 ["text", "word"] := mk_dn X T.g a26 l26 c26 k26 fun _ _ _ _ _ _ us hl => match us, hl with | [_, _], _ => rfl
  have d28 : DnE K mg "areas_told" 28 ["texts", "word"] := mk_dn X T.g a28 l28 c28 k28 fun _ _ _ _ _ _ us hl => match us, hl with | [_, _], _ => rfl
  have d29 : DnE K mg "check_area" 29 ["areas", "name"] := mk_dn X T.g a29 l29 c29 k29 fun _ _ _ _ _ _ us hl => match us, hl with | [_, _], _ => rfl
  have d30 : DnE K mg "with_stretch" 30 ["areas", "index", "stretch"] := mk_dn X T.g a30 l30 c30 k30 fun _ _ _ _ _ _ us hl => match us, hl with | [_, _, _], _ => rfl
  have d32 : DnE K mg "_law_jar" 32 ["_law_script", "_law_k"] := mk_dn X T.g a32 l32 c32 k32 fun _ _ _ _ _ _ us hl => match us, hl with | [_, _], _ => rfl
  have d33 : DnE K mg "_law_draw" 33 ["_law_jar_here", "_law_size"] := mk_dn X T.g a33 l33 c33 k33 fun _ _ _ _ _ _ us hl => match us, hl with | [_, _], _ => rfl
  have d34 : DnE K mg "_law_pick" 34 ["_law_jar_here", "_law_menu"] := mk_dn X T.g a34 l34 c34 k34 fun _ _ _ _ _ _ us hl => match us, hl with | [_, _], _ => rfl
  have d35 : DnE K mg "_law_tags" 35 ["_law_jar_here", "_law_many"] := mk_dn X T.g a35 l35 c35 k35 fun _ _ _ _ _ _ us hl => match us, hl with | [_, _], _ => rfl
  have d36 : DnE K mg "_law_drawn" 36 ["_law_jar_here", "_law_most"] := mk_dn X T.g a36 l36 c36 k36 fun _ _ _ _ _ _ us hl => match us, hl with | [_, _], _ => rfl
  have d37 : DnE K mg "_law_word" 37 ["_law_span"] := mk_dn X T.g a37 l37 c37 k37 fun _ _ _ _ _ _ us hl => match us, hl with | [_], _ => rfl
  have d38 : DnE K mg "_law_page" 38 ["_law_lines"] := mk_dn X T.g a38 l38 c38 k38 fun _ _ _ _ _ _ us hl => match us, hl with | [_], _ => rfl
  have d39 : DnE K mg "_law_number" 39 ["_law_word_here"] := mk_dn X T.g a39 l39 c39 k39 fun _ _ _ _ _ _ us hl => match us, hl with | [_], _ => rfl
  have d40 : DnE K mg "_law_span_told" 40 ["_law_word_here"] := mk_dn X T.g a40 l40 c40 k40 fun _ _ _ _ _ _ us hl => match us, hl with | [_], _ => rfl
  have d41 : DnE K mg "_law_is_tag" 41 ["_law_word_here"] := mk_dn X T.g a41 l41 c41 k41 fun _ _ _ _ _ _ us hl => match us, hl with | [_], _ => rfl
  have d42 : DnE K mg "_law_told" 42 ["_law_text"] := mk_dn X T.g a42 l42 c42 k42 fun _ _ _ _ _ _ us hl => match us, hl with | [_], _ => rfl
  have d43 : DnE K mg "_law_bent" 43 ["_law_jar_here", "_law_text"] := mk_dn X T.g a43 l43 c43 k43 fun _ _ _ _ _ _ us hl => match us, hl with | [_, _], _ => rfl
  have d44 : DnE K mg "_law_heard" 44 ["_law_act"] := mk_dn X T.g a44 l44 c44 k44 fun _ _ _ _ _ _ us hl => match us, hl with | [_], _ => rfl
  have d45 : DnE K mg "_law_shows" 45 ["_law_made", "_law_lines"] := mk_dn X T.g a45 l45 c45 k45 fun _ _ _ _ _ _ us hl => match us, hl with | [_, _], _ => rfl
  have d47 : DnE K mg "_law_changed_right" 47 ["_law_jar_here", "_law_made", "_law_lines"] := mk_dn X T.g a47 l47 c47 k47 fun _ _ _ _ _ _ us hl => match us, hl with | [_, _, _], _ => rfl
  have d48 : DnE K mg "_law_right" 48 ["_law_jar_here"] := mk_dn X T.g a48 l48 c48 k48 fun _ _ _ _ _ _ us hl => match us, hl with | [_], _ => rfl
  have d49 : DnE K mg "law" 49 ["_law_script"] := mk_dn X T.g a49 l49 c49 k49 fun _ _ _ _ _ _ us hl => match us, hl with | [_], _ => rfl
  obtain ⟨fh, fdh, d44⟩ := d44
  obtain ⟨fl, fdl, d49⟩ := d49
  have ef := d49.m.symm.trans hmg
  cases ef
  have F46 := fun_mk l46 c46 k46
  have d46 : Dn K mg "_law_read_right" (topS 46) ["_law_jar_here", "_law_made", "_law_text"] f46 _ := ⟨F46, PySem.W.mg_of X T.g a46, F46.binds fun _ _ _ _ _ _ us hl => match us, hl with | [_, _, _], _ => rfl⟩
  have fc : FunC K "_law_read_right" "_law_read_right" (topS 46) f46 _ c := ⟨_, _, _, _, _, _, _, _, rfl, l46, c46⟩
  obtain ⟨hT, hC⟩ := tab_facts T X hrec (PySem.W.mg_of X T.g a46) l46 rfl lc h11
  have p2 : ∃ p g fd, PrE K C "lines" 2 p g fd := mk_pr rfl pa2 ps2 pt2 pr2 lp2 cp2 kp2 fun _ _ _ _ _ _ us hl => match us, hl with | [_], _ => rfl
  have p3 : ∃ p g fd, PrE K C "names" 3 p g fd := mk_pr rfl pa3 ps3 pt3 pr3 lp3 cp3 kp3 fun _ _ _ _ _ _ us hl => match us, hl with | [_], _ => rfl
  have p4 : ∃ p g fd, PrE K C "leaves" 4 p g fd := mk_pr rfl pa4 ps4 pt4 pr4 lp4 cp4 kp4 fun _ _ _ _ _ _ us hl => match us, hl with | [_], _ => rfl
  have p5 : ∃ p g fd, PrE K C "text" 5 p g fd := mk_pr rfl pa5 ps5 pt5 pr5 lp5 cp5 kp5 fun _ _ _ _ _ _ us hl => match us, hl with | [_], _ => rfl
  have m6 : ∃ g fd, MeE K C "stretch" 6 ["self", "name"] g fd := mk_me rfl ma6 mi6 lm6 cm6 km6 fun _ _ _ _ _ _ us hl => match us, hl with | [_, _], _ => rfl
  have m7 : ∃ g fd, MeE K C "inner" 7 ["self", "name"] g fd := mk_me rfl ma7 mi7 lm7 cm7 km7 fun _ _ _ _ _ _ us hl => match us, hl with | [_, _], _ => rfl
  have m8 : ∃ g fd, MeE K C "changed" 8 ["self", "name", "stretch"] g fd := mk_me rfl ma8 mi8 lm8 cm8 km8 fun _ _ _ _ _ _ us hl => match us, hl with | [_, _, _], _ => rfl
  have m9 : ∃ g fd, MeE K C "__len__" 9 ["self"] g fd := mk_me rfl ma9 mi9 lm9 cm9 km9 fun _ _ _ _ _ _ us hl => match us, hl with | [_], _ => rfl
  have m10 : ∃ g fd, MeE K C "__bool__" 10 ["self"] g fd := mk_me rfl ma10 mi10 lm10 cm10 km10 fun _ _ _ _ _ _ us hl => match us, hl with | [_], _ => rfl
  have m11 : ∃ g fd, MeE K C "__str__" 11 ["self"] g fd := mk_me rfl ma11 mi11 lm11 cm11 km11 fun _ _ _ _ _ _ us hl => match us, hl with | [_], _ => rfl
  have m12 : ∃ g fd, MeE K C "__eq__" 12 ["self", "other"] g fd := mk_me rfl ma12 mi12 lm12 cm12 km12 fun _ _ _ _ _ _ us hl => match us, hl with | [_, _], _ => rfl
  have RL : ErrC K P (inClass (topS 6) 0) "InvalidLines.__init__" CL fiL "index" := ⟨⟨_, _, _, _, _, _, _, _, _, _, _, _, _, _, _, xcL, xbL⟩, xsL, xnL, xiL, xtL, xkL, xeL, xyL, xoL, xuL, xvL, xmL, ⟨_, _, _, _, _, _, _, _, _, _, xlL, xdL, ⟨_, _, _, _, _, _, xfL, xgL, xhL⟩, _, _, _, xjL⟩, xwL⟩
  have RX : ErrC K P (inClass (topS 4) 0) "InvalidText.__init__" CT fiX "given" := ⟨⟨_, _, _, _, _, _, _, _, _, _, _, _, _, _, _, xcX, xbX⟩, xsX, xnX, xiX, xtX, xkX, xeX, xyX, xoX, xuX, xvX, xmX, ⟨_, _, _, _, _, _, _, _, _, _, xlX, xdX, ⟨_, _, _, _, _, _, xfX, xgX, xhX⟩, _, _, _, xjX⟩, xwX⟩
  have kit : ∀ t ∈ ["str", "tuple", "NoneType", "int", "list", "dict"], PySem.W.subIn K (.type t) (.ref C) = some false := by
    intro t ht
    simp only [List.mem_cons, List.not_mem_nil, or_false] at ht
    rcases ht with rfl | rfl | rfl | rfl | rfl | rfl
    · exact s0
    · exact s1
    · exact s2
    · exact s3
    · exact s4
    · exact s5
  refine ⟨_, c, Pt, hT, nT, hC, fun s u hK => d49.b s [u] hK rfl, all_of (w := w) (mc := .type "type") G AT d13 d14 d15 d16 d17 d19 d20 d21 d22 d24 d25 d26 d28 d29 d30 d32 d33 d34 d35 d36 d37 d38 d39 d40 d41 d42 d43 d45 d47 d48 d44 d49 d46 fc p2 p3 p4 p5 m6 m7 m8 m9 m10 m11 m12 ⟨cmk, aI, iI, ckp⟩ (fun_mk lI cI kI) (PySem.W.mg_none_of X T.g ivl) RL (PySem.W.mg_of X T.g xaL) RX (PySem.W.mg_of X T.g xaX)
    (exm_of xeL xqL xyL eLL) ⟨rd, rg⟩ ⟨ta, ⟨_, tr⟩, tf⟩ (fun_mk lT cT kT) ⟨yga, ygg, xeX, yhd⟩ (PySem.W.mg_of X T.g za1) (PySem.W.mg_of X T.g za2) (PySem.W.mg_of X T.g za3)
    (exmAny_of (exm_of zb1 zi1 zt1 zs1) (exm_of zb2 zi2 zt2 zs2) (exm_of zb3 zi3 zt3 zs3) zz) cne cmr cca ccs cct (fun t ht => kit_of cic cty (kit t ht)) fun t ht => nf_of (kit t ht)⟩
end K3

open PySem PySem.W PyProof.Rows
set_option maxRecDepth 100000 in
set_option maxHeartbeats 0 in
theorem PySem.Challenge.cw_toldcounts_k03_whole_areas_made_and_read_holds : PySem.Challenge.rw_toldcounts_k03_whole_areas_made_and_read.Holds := by
  w_on; o_law; k_head; (case hw => w_witness2)
  k_fill
  refine K3.walkG (l := PySem.Challenge.rw_toldcounts_k03_whole_areas_made_and_read) (k := 14) (x := "_law_script") (ql := K3.qL) rfl (by decide) rfl ⟨rfl, by decide, by decide⟩ (fun w h Y => PySem.W.km_in_of Y) ?F
  case F =>
    intro w mg mb mean fa h Y KX T hmg
    refine' K3.fin_of KX T hmg ?aC ?n0 ?n1 ?n2 ?n3 ?n4 ?n5 ?n6 ?n7 ?n8 ?n9 ?n10 ?n11 ?n12 ?n13 ?g1 ?g2 ?g3 ?g4 ?cpg ?chd ?cpo ?csa ?cnL ?cnT ?ckp ?cmk ?cic ?cty ?cne ?cmr ?cca ?ccs ?cct ?s0 ?s1 ?s2 ?s3 ?s4 ?s5 ?ivl ?a13 ?l13 ?c13 ?k13 ?a14 ?l14 ?c14 ?k14 ?a15 ?l15 ?c15 ?k15 ?a16 ?l16 ?c16 ?k16 ?a17 ?l17 ?c17 ?k17 ?a19 ?l19 ?c19 ?k19 ?a20 ?l20 ?c20 ?k20 ?a21 ?l21 ?c21 ?k21 ?a22 ?l22 ?c22 ?k22 ?a24 ?l24 ?c24 ?k24 ?a25 ?l25 ?c25 ?k25 ?a26 ?l26 ?c26 ?k26 ?a28 ?l28 ?c28 ?k28 ?a29 ?l29 ?c29 ?k29 ?a30 ?l30 ?c30 ?k30 ?a32 ?l32 ?c32 ?k32 ?a33 ?l33 ?c33 ?k33 ?a34 ?l34 ?c34 ?k34 ?a35 ?l35 ?c35 ?k35 ?a36 ?l36 ?c36 ?k36 ?a37 ?l37 ?c37 ?k37 ?a38 ?l38 ?c38 ?k38 ?a39 ?l39 ?c39 ?k39 ?a40 ?l40 ?c40 ?k40 ?a41 ?l41 ?c41 ?k41 ?a42 ?l42 ?c42 ?k42 ?a43 ?l43 ?c43 ?k43 ?a44 ?l44 ?c44 ?k44 ?a45 ?l45 ?c45 ?k45 ?a47 ?l47 ?c47 ?k47 ?a48 ?l48 ?c48 ?k48 ?a49 ?l49 ?c49 ?k49 ?a46 ?l46 ?c46 ?k46 ?lc ?h11 ?nT ?hrec ?pa2 ?ps2 ?pt2 ?pr2 ?lp2 ?cp2 ?kp2 ?pa3 ?ps3 ?pt3 ?pr3 ?lp3 ?cp3 ?kp3 ?pa4 ?ps4 ?pt4 ?pr4 ?lp4 ?cp4 ?kp4 ?pa5 ?ps5 ?pt5 ?pr5 ?lp5 ?cp5 ?kp5 ?ma6 ?mi6 ?lm6 ?cm6 ?km6 ?ma7 ?mi7 ?lm7 ?cm7 ?km7 ?ma8 ?mi8 ?lm8 ?cm8 ?km8 ?ma9 ?mi9 ?lm9 ?cm9 ?km9 ?ma10 ?mi10 ?lm10 ?cm10 ?km10 ?ma11 ?mi11 ?lm11 ?cm11 ?km11 ?ma12 ?mi12 ?lm12 ?cm12 ?km12 ?aI ?iI ?lI ?cI ?kI ?rd ?rg ?ta ?tr ?tf ?lT ?cT ?kT ?xaL ?xcL ?xbL ?xsL ?xnL ?xiL ?xtL ?xkL ?xeL ?xyL ?xoL ?xuL ?xvL ?xmL ?xlL ?xdL ?xfL ?xgL ?xhL ?xjL ?xwL ?xqL ?xaX ?xcX ?xbX ?xsX ?xnX ?xiX ?xtX ?xkX ?xeX ?xyX ?xoX ?xuX ?xvX ?xmX ?xlX ?xdX ?xfX ?xgX ?xhX ?xjX ?xwX ?xqX ?eLL ?yga ?ygg ?yhd ?za1 ?zb1 ?zi1 ?zt1 ?zs1 ?za2 ?zb2 ?zi2 ?zt2 ?zs2 ?za3 ?zb3 ?zi3 ?zt3 ?zs3 ?zz
    (case aC => k_is)
    (case n0 => k_is)
    (case n1 => k_is)
    (case n2 => k_is)
    (case n3 => k_is)
    (case n4 => k_is)
    (case n5 => k_is)
    (case n6 => k_is)
    (case n7 => k_is)
    (case n8 => k_is)
    (case n9 => k_is)
    (case n10 => k_is)
    (case n11 => k_is)
    (case n12 => k_is)
    (case n13 => k_is)
    (case g1 => k_is)
    (case g2 => k_is)
    (case g3 => k_is)
    (case g4 => k_is)
    (case cpg => k_is)
    (case chd => k_is)
    (case cpo => k_is)
    (case csa => k_is)
    (case cnL => k_is)
    (case cnT => k_is)
    (case ckp => k_is)
    (case cmk => k_is)
    (case cic => k_is)
    (case cty => k_is)
    (case cne => k_is)
    (case cmr => k_is)
    (case cca => k_is)
    (case ccs => k_is)
    (case cct => k_is)
    (case s0 => k_is)
    (case s1 => k_is)
    (case s2 => k_is)
    (case s3 => k_is)
    (case s4 => k_is)
    (case s5 => k_is)
    (case ivl => k_is)
    (case a13 => k_is)
    (case l13 => k_is)
    (case c13 => k_is)
    (case k13 => k_is)
    (case a14 => k_is)
    (case l14 => k_is)
    (case c14 => k_is)
    (case k14 => k_is)
    (case a15 => k_is)
    (case l15 => k_is)
    (case c15 => k_is)
    (case k15 => k_is)
    (case a16 => k_is)
    (case l16 => k_is)
    (case c16 => k_is)
    (case k16 => k_is)
    (case a17 => k_is)
    (case l17 => k_is)
    (case c17 => k_is)
    (case k17 => k_is)
    (case a19 => k_is)
    (case l19 => k_is)
    (case c19 => k_is)
    (case k19 => k_is)
    (case a20 => k_is)
    (case l20 => k_is)
    (case c20 => k_is)
    (case k20 => k_is)
    (case a21 => k_is)
    (case l21 => k_is)
    (case c21 => k_is)
    (case k21 => k_is)
    (case a22 => k_is)
    (case l22 => k_is)
    (case c22 => k_is)
    (case k22 => k_is)
    (case a24 => k_is)
    (case l24 => k_is)
    (case c24 => k_is)
    (case k24 => k_is)
    (case a25 => k_is)
    (case l25 => k_is)
    (case c25 => k_is)
    (case k25 => k_is)
    (case a26 => k_is)
    (case l26 => k_is)
    (case c26 => k_is)
    (case k26 => k_is)
    (case a28 => k_is)
    (case l28 => k_is)
    (case c28 => k_is)
    (case k28 => k_is)
    (case a29 => k_is)
    (case l29 => k_is)
    (case c29 => k_is)
    (case k29 => k_is)
    (case a30 => k_is)
    (case l30 => k_is)
    (case c30 => k_is)
    (case k30 => k_is)
    (case a32 => k_is)
    (case l32 => k_is)
    (case c32 => k_is)
    (case k32 => k_is)
    (case a33 => k_is)
    (case l33 => k_is)
    (case c33 => k_is)
    (case k33 => k_is)
    (case a34 => k_is)
    (case l34 => k_is)
    (case c34 => k_is)
    (case k34 => k_is)
    (case a35 => k_is)
    (case l35 => k_is)
    (case c35 => k_is)
    (case k35 => k_is)
    (case a36 => k_is)
    (case l36 => k_is)
    (case c36 => k_is)
    (case k36 => k_is)
    (case a37 => k_is)
    (case l37 => k_is)
    (case c37 => k_is)
    (case k37 => k_is)
    (case a38 => k_is)
    (case l38 => k_is)
    (case c38 => k_is)
    (case k38 => k_is)
    (case a39 => k_is)
    (case l39 => k_is)
    (case c39 => k_is)
    (case k39 => k_is)
    (case a40 => k_is)
    (case l40 => k_is)
    (case c40 => k_is)
    (case k40 => k_is)
    (case a41 => k_is)
    (case l41 => k_is)
    (case c41 => k_is)
    (case k41 => k_is)
    (case a42 => k_is)
    (case l42 => k_is)
    (case c42 => k_is)
    (case k42 => k_is)
    (case a43 => k_is)
    (case l43 => k_is)
    (case c43 => k_is)
    (case k43 => k_is)
    (case a44 => k_is)
    (case l44 => k_is)
    (case c44 => k_is)
    (case k44 => k_is)
    (case a45 => k_is)
    (case l45 => k_is)
    (case c45 => k_is)
    (case k45 => k_is)
    (case a47 => k_is)
    (case l47 => k_is)
    (case c47 => k_is)
    (case k47 => k_is)
    (case a48 => k_is)
    (case l48 => k_is)
    (case c48 => k_is)
    (case k48 => k_is)
    (case a49 => k_is)
    (case l49 => k_is)
    (case c49 => k_is)
    (case k49 => k_is)
    (case a46 => k_is)
    (case l46 => k_is)
    (case c46 => k_is)
    (case k46 => k_is)
    (case lc => k_is)
    (case h11 => with_unfolding_all rfl)
    (case nT => kernel_rfl)
    (case hrec => first | kernel_rfl | rfl | decide +kernel)
    (case pa2 => k_is)
    (case ps2 => k_is)
    (case pt2 => k_is)
    (case pr2 => k_is)
    (case lp2 => k_is)
    (case cp2 => k_is)
    (case kp2 => k_is)
    (case pa3 => k_is)
    (case ps3 => k_is)
    (case pt3 => k_is)
    (case pr3 => k_is)
    (case lp3 => k_is)
    (case cp3 => k_is)
    (case kp3 => k_is)
    (case pa4 => k_is)
    (case ps4 => k_is)
    (case pt4 => k_is)
    (case pr4 => k_is)
    (case lp4 => k_is)
    (case cp4 => k_is)
    (case kp4 => k_is)
    (case pa5 => k_is)
    (case ps5 => k_is)
    (case pt5 => k_is)
    (case pr5 => k_is)
    (case lp5 => k_is)
    (case cp5 => k_is)
    (case kp5 => k_is)
    (case ma6 => k_is)
    (case mi6 => k_is)
    (case lm6 => k_is)
    (case cm6 => k_is)
    (case km6 => k_is)
    (case ma7 => k_is)
    (case mi7 => k_is)
    (case lm7 => k_is)
    (case cm7 => k_is)
    (case km7 => k_is)
    (case ma8 => k_is)
    (case mi8 => k_is)
    (case lm8 => k_is)
    (case cm8 => k_is)
    (case km8 => k_is)
    (case ma9 => k_is)
    (case mi9 => k_is)
    (case lm9 => k_is)
    (case cm9 => k_is)
    (case km9 => k_is)
    (case ma10 => k_is)
    (case mi10 => k_is)
    (case lm10 => k_is)
    (case cm10 => k_is)
    (case km10 => k_is)
    (case ma11 => k_is)
    (case mi11 => k_is)
    (case lm11 => k_is)
    (case cm11 => k_is)
    (case km11 => k_is)
    (case ma12 => k_is)
    (case mi12 => k_is)
    (case lm12 => k_is)
    (case cm12 => k_is)
    (case km12 => k_is)
    (case aI => k_is)
    (case iI => k_is)
    (case lI => k_is)
    (case cI => k_is)
    (case kI => k_is)
    (case rd => k_is)
    (case rg => k_is)
    (case ta => k_is)
    (case tr => k_is)
    (case tf => k_is)
    (case lT => k_is)
    (case cT => k_is)
    (case kT => k_is)
    (case xaL => k_is)
    (case xcL => k_is)
    (case xbL => first | rfl | decide +kernel)
    (case xsL => k_is)
    (case xnL => k_is)
    (case xiL => k_is)
    (case xtL => k_is)
    (case xkL => k_is)
    (case xeL => k_is)
    (case xyL => k_is)
    (case xoL => k_is)
    (case xuL => ks_is)
    (case xvL => k_is)
    (case xmL => k_is)
    (case xlL => k_is)
    (case xdL => k_is)
    (case xfL => k_is)
    (case xgL => with_unfolding_all rfl)
    (case xhL => first | kernel_rfl | rfl | decide +kernel)
    (case xjL => k_is)
    (case xwL => first | kernel_rfl | rfl | decide +kernel)
    (case xqL => k_is)
    (case xaX => k_is)
    (case xcX => k_is)
    (case xbX => first | rfl | decide +kernel)
    (case xsX => k_is)
    (case xnX => k_is)
    (case xiX => k_is)
    (case xtX => k_is)
    (case xkX => k_is)
    (case xeX => k_is)
    (case xyX => k_is)
    (case xoX => k_is)
    (case xuX => ks_is)
    (case xvX => k_is)
    (case xmX => k_is)
    (case xlX => k_is)
    (case xdX => k_is)
    (case xfX => k_is)
    (case xgX => with_unfolding_all rfl)
    (case xhX => first | kernel_rfl | rfl | decide +kernel)
    (case xjX => k_is)
    (case xwX => first | kernel_rfl | rfl | decide +kernel)
    (case xqX => k_is)
    (case eLL => k_is)
    (case yga => k_is)
    (case ygg => k_is)
    (case yhd => k_is)
    (case za1 => k_is)
    (case zb1 => k_is)
    (case zi1 => k_is)
    (case zt1 => k_is)
    (case zs1 => k_is)
    (case za2 => k_is)
    (case zb2 => k_is)
    (case zi2 => k_is)
    (case zt2 => k_is)
    (case zs2 => k_is)
    (case za3 => k_is)
    (case zb3 => k_is)
    (case zi3 => k_is)
    (case zt3 => k_is)
    (case zs3 => k_is)
    (case zz => rfl)

