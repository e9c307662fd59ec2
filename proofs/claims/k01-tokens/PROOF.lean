import PyProof.Rows.All
import Wide.All
import OpenK.AllK
import Wide.FinOn
import HandS.ForMost
import HandS.StrMore
import HandS.IsInst
import HandS.Steps
import HandS.Flow
import PyProof.ListStr
import HandS.More
import PyProof.FitsReplace
import PyProof.Claim2
import HandS.Ends
import PySem.Challenge.RW_wherewritten_k01_tokens_and_names
set_option Elab.async false
set_option maxRecDepth 100000
set_option maxHeartbeats 4000000
/-! The mathematics of tokens and names: texts are lists of codes. -/
namespace K1
open PySem

/-! ### 1. going on to the first sign of a kind -/
def stop (p : Nat → Bool) (cs : List Nat) (k : Nat) : Nat := k + ((cs.drop k).takeWhile fun c => !p c).length

theorem drop_of {cs : List Nat} {k c : Nat} (h : cs[k]? = some c) : cs.drop k = c :: cs.drop (k + 1) := by
  obtain ⟨hk, e⟩ := List.getElem?_eq_some_iff.mp h
  rw [List.drop_eq_getElem_cons hk, e]
theorem stop_here {p : Nat → Bool} {cs : List Nat} {k c : Nat} (h : cs[k]? = some c) (hp : p c = true) : stop p cs k = k := by
  unfold stop; rw [drop_of h, List.takeWhile_cons]; simp [hp]
theorem stop_next {p : Nat → Bool} {cs : List Nat} {k c : Nat} (h : cs[k]? = some c) (hp : p c = false) : stop p cs k = stop p cs (k + 1) := by
  unfold stop; rw [drop_of h, List.takeWhile_cons]; simp [hp]; omega
theorem stop_end {p : Nat → Bool} {cs : List Nat} {k : Nat} (h : cs.length ≤ k) : stop p cs k = k := by
  unfold stop; rw [List.drop_eq_nil_of_le h]; simp
theorem le_stop {p : Nat → Bool} {cs : List Nat} {k : Nat} : k ≤ stop p cs k := Nat.le_add_right ..
theorem stop_le {p : Nat → Bool} {cs : List Nat} {k : Nat} (h : k ≤ cs.length) : stop p cs k ≤ cs.length := by
  unfold stop
  have := (List.takeWhile_sublist (p := fun c => !p c) (l := cs.drop k)).length_le
  rw [List.length_drop] at this
  omega
theorem some_at {cs : List Nat} {k : Nat} (h : k < cs.length) : ∃ c, cs[k]? = some c := ⟨cs[k], List.getElem?_eq_getElem h⟩
theorem at_lt {cs : List Nat} {k c : Nat} (h : cs[k]? = some c) : k < cs.length := (List.getElem?_eq_some_iff.mp h).1
theorem stop_hit_ {p : Nat → Bool} {cs : List Nat} : ∀ (n k : Nat), cs.length - k = n → stop p cs k < cs.length → ∃ c, cs[stop p cs k]? = some c ∧ p c = true
  | 0, k, e, h => by rw [stop_end (by omega)] at h; omega
  | n + 1, k, e, h => by
    obtain ⟨c, hc⟩ := some_at (cs := cs) (k := k) (by omega)
    cases hp : p c with
    | true => rw [stop_here hc hp]; exact ⟨c, hc, hp⟩
    | false =>
      rw [stop_next hc hp] at h ⊢
      exact stop_hit_ n (k + 1) (by omega) h
theorem stop_hit {p : Nat → Bool} {cs : List Nat} {k : Nat} (h : stop p cs k < cs.length) : ∃ c, cs[stop p cs k]? = some c ∧ p c = true := stop_hit_ _ k rfl h
theorem stop_before_ {p : Nat → Bool} {cs : List Nat} : ∀ (n k j c : Nat), cs.length - k = n → k ≤ j → j < stop p cs k → cs[j]? = some c → p c = false
  | 0, k, j, c, e, h1, h2, h3 => by rw [stop_end (by omega)] at h2; omega
  | n + 1, k, j, c, e, h1, h2, h3 => by
    obtain ⟨d, hd⟩ := some_at (cs := cs) (k := k) (by omega)
    cases hp : p d with
    | true => rw [stop_here hd hp] at h2; omega
    | false =>
      by_cases hj : j = k
      · subst hj
        rw [h3] at hd
        cases hd
        exact hp
      · rw [stop_next hd hp] at h2
        exact stop_before_ n (k + 1) j c (by omega) (by omega) h2 h3
theorem stop_before {p : Nat → Bool} {cs : List Nat} {k j c : Nat} (h1 : k ≤ j) (h2 : j < stop p cs k) (h3 : cs[j]? = some c) : p c = false := stop_before_ _ k j c rfl h1 h2 h3
theorem stop_is_ {p : Nat → Bool} {cs : List Nat} {e : Nat} (he : e ≤ cs.length) (hit : e < cs.length → ∃ c, cs[e]? = some c ∧ p c = true) : ∀ (n k : Nat), e - k = n → k ≤ e → (∀ j c, k ≤ j → j < e → cs[j]? = some c → p c = false) → stop p cs k = e
  | 0, k, hn, hk, _ => by
    have : k = e := by omega
    subst this
    by_cases h : k < cs.length
    · obtain ⟨c, hc, hp⟩ := hit h
      exact stop_here hc hp
    · exact stop_end (by omega)
  | n + 1, k, hn, hk, hb => by
    obtain ⟨c, hc⟩ := some_at (cs := cs) (k := k) (by omega)
    rw [stop_next hc (hb k c (Nat.le_refl _) (by omega) hc)]
    exact stop_is_ he hit n (k + 1) (by omega) (by omega) fun j c h1 h2 h3 => hb j c (by omega) h2 h3
theorem stop_is {p : Nat → Bool} {cs : List Nat} {k e : Nat} (hk : k ≤ e) (he : e ≤ cs.length) (hit : e < cs.length → ∃ c, cs[e]? = some c ∧ p c = true) (hb : ∀ j c, k ≤ j → j < e → cs[j]? = some c → p c = false) : stop p cs k = e := stop_is_ he hit _ k rfl hk hb

/-! ### 2. a sign sought between two places -/
section
open Builtin Builtin.Str StrLaws
theorem occ_one_ (s : PySem.Str) (sub : PySem.Str) (hi : Nat) : ∀ (l : List Nat) (st : Array Nat × Nat), 1 ≤ st.fst.size → (forIn l st (occBody s sub hi 1)).run.fst = st.fst
  | [], st, _ => rfl
  | a :: l, st, h => by
    rw [List.forIn_cons]
    unfold occBody
    rw [if_neg (fun q => by have := q.1.1.1; omega)]
    exact occ_one_ s sub hi l _ h
theorem occ_first_ (x : PySem.Str) (c hi : Nat) (hh : hi ≤ x.length) : ∀ (m cur free : Nat), free ≤ cur →
    (∃ j, (forIn (List.range' cur m) ((#[] : Array Nat), free) (occBody x ⟨#[c]⟩ hi 1)).run.fst.toList = [j] ∧ cur ≤ j ∧ j < hi ∧ x.cps.toList[j]? = some c ∧ ∀ i, cur ≤ i → i < j → x.cps.toList[i]? ≠ some c) ∨
    ((forIn (List.range' cur m) ((#[] : Array Nat), free) (occBody x ⟨#[c]⟩ hi 1)).run.fst.toList = [] ∧ ∀ i, cur ≤ i → i < cur + m → i < hi → x.cps.toList[i]? ≠ some c)
  | 0, cur, free, _ => .inr ⟨rfl, fun i h1 h2 _ => by omega⟩
  | m + 1, cur, free, hf => by
    rw [List.range'_succ, List.forIn_cons]
    unfold occBody
    by_cases hc : cur < hi ∧ x.cps.toList[cur]? = some c
    · have h1 := (subAt_one x c cur).mpr hc.2
      rw [if_pos ⟨⟨⟨by simp, hf⟩, by show cur + 1 ≤ hi; omega⟩, h1.2⟩]
      refine .inl ⟨cur, ?_, Nat.le_refl _, hc.1, hc.2, fun i h1 h2 => by omega⟩
      have e := occ_one_ x ⟨#[c]⟩ hi (List.range' (cur + 1) m) ((#[] : Array Nat).push cur, cur + (⟨#[c]⟩ : PySem.Str).length) (by simp)
      unfold occBody at e
      exact congrArg Array.toList e
    · rw [if_neg (fun q => hc ⟨by have := q.1.2; (have z : cur + 1 ≤ hi := this); omega, (subAt_one x c cur).mp ⟨Nat.le_trans q.1.2 hh, q.2⟩⟩)]
      rcases occ_first_ x c hi hh m (cur + 1) free (by omega) with ⟨j, e, h1, h2, h3, h4⟩ | ⟨e, h⟩
      · refine .inl ⟨j, e, by omega, h2, h3, fun i g1 g2 => ?_⟩
        by_cases gi : i = cur
        · subst gi
          exact fun q => hc ⟨by omega, q⟩
        · exact h4 i (by omega) g2
      · refine .inr ⟨e, fun i g1 g2 g3 => ?_⟩
        by_cases gi : i = cur
        · subst gi
          exact fun q => hc ⟨by omega, q⟩
        · exact h i (by omega) (by omega) g3
theorem occ_first (x : PySem.Str) (c lo hi : Nat) (hh : hi ≤ x.length) :
    (∃ j, occurrences x ⟨#[c]⟩ lo hi 1 = [j] ∧ lo ≤ j ∧ j < hi ∧ x.cps.toList[j]? = some c ∧ ∀ i, lo ≤ i → i < j → x.cps.toList[i]? ≠ some c) ∨
    (occurrences x ⟨#[c]⟩ lo hi 1 = [] ∧ ∀ i, lo ≤ i → i < hi → x.cps.toList[i]? ≠ some c) := by
  rw [occ_eq]
  rcases occ_first_ x c hi hh (hi + 1 - lo) lo lo (Nat.le_refl _) with h | ⟨e, h⟩
  · exact .inl h
  · exact .inr ⟨e, fun i h1 h2 => h i h1 (by omega) h2⟩
end

/-! ### 3. the sorts of words -/
abbrev figsT : PySem.Str := "0123456789"
abbrev nameT : PySem.Str := "abcdefghijklmnopqrstuvwxyz0123456789!*+-./:<=>?_"
abbrev endsT : PySem.Str := " \n()'\";"
def isFig (c : Nat) : Bool := decide (c ∈ figsT.cps.toList)
def isNm (c : Nat) : Bool := decide (c ∈ nameT.cps.toList)
def isEnd (c : Nat) : Bool := decide (c ∈ endsT.cps.toList)
def isNL (c : Nat) : Bool := decide (c = 10)
def isQ (c : Nat) : Bool := decide (c = 10) || decide (c = 34)
def dotsC : List Nat := [46, 46, 46]
def flagT : List Nat := [35, 116]
def flagF : List Nat := [35, 102]
abbrev sNumber : PySem.Str := "number"
abbrev sFlag : PySem.Str := "flag"
abbrev sDots : PySem.Str := "dots"
abbrev sWild : PySem.Str := "wild"
abbrev sName : PySem.Str := "name"
abbrev sWrong : PySem.Str := "wrong"
abbrev sSign : PySem.Str := "sign"
abbrev sString : PySem.Str := "string"

def bodyOf (cs : List Nat) : List Nat := if cs.take 1 = [45] then cs.drop 1 else cs
def isNumP (cs : List Nat) : Bool :=
  if (bodyOf cs = [] ∨ (bodyOf cs).all isFig = false) ∨ 30 < (bodyOf cs).length then false else decide (cs = [48]) || decide ((bodyOf cs)[0]? ≠ some 48)
def firstOf (cs : List Nat) : Option Nat := if cs[0]? = some 45 then cs[1]? else cs[0]?
def isNameP (cs : List Nat) : Bool :=
  if ¬ (1 ≤ cs.length ∧ cs.length ≤ 20) ∨ (cs = dotsC ∨ cs = [95]) then false
  else if cs.all isNm = false then false
  else match firstOf cs with
    | none => true
    | some c => !isFig c
def sortP (cs : List Nat) : PySem.Str :=
  if isNumP cs = true then sNumber else if cs = flagT ∨ cs = flagF then sFlag else if cs = dotsC then sDots else if cs = [95] then sWild else if isNameP cs = true then sName else sWrong
def sortL (cs : List Nat) : PySem.Str :=
  if bodyOf cs ≠ [] ∧ (bodyOf cs).all isFig = true then (if cs = [48] ∨ ((bodyOf cs)[0]? ≠ some 48 ∧ (bodyOf cs).length < 31) then sNumber else sWrong)
  else if cs = flagT ∨ cs = flagF then sFlag
  else if cs = dotsC then sDots else if cs = [95] then sWild
  else if cs.all isNm = false then sWrong
  else if 20 < cs.length ∨ (∃ c, (bodyOf cs)[0]? = some c ∧ isFig c = true) then sWrong
  else sName

theorem body_len (cs : List Nat) : (bodyOf cs).length ≤ cs.length := by
  unfold bodyOf; split
  · rw [List.length_drop]; omega
  · exact Nat.le_refl _
theorem take1 {cs : List Nat} {c : Nat} : cs.take 1 = [c] ↔ cs[0]? = some c := by
  cases cs with
  | nil => simp
  | cons a r => simp
theorem first_body (cs : List Nat) : firstOf cs = (bodyOf cs)[0]? := by
  unfold firstOf bodyOf
  by_cases h : cs[0]? = some 45
  · rw [if_pos h, if_pos (take1.mpr h), List.getElem?_drop]
  · rw [if_neg h, if_neg (fun q => h (take1.mp q))]
theorem isFig_48 : isFig 48 = true := by decide +kernel
theorem not_fig_35 : isFig 35 = false := by decide +kernel
theorem not_fig_46 : isFig 46 = false := by decide +kernel
theorem not_fig_95 : isFig 95 = false := by decide +kernel
theorem flagT_no : ¬ (bodyOf flagT ≠ [] ∧ (bodyOf flagT).all isFig = true) := by decide +kernel
theorem flagF_no : ¬ (bodyOf flagF ≠ [] ∧ (bodyOf flagF).all isFig = true) := by decide +kernel
theorem dots_no : ¬ (bodyOf dotsC ≠ [] ∧ (bodyOf dotsC).all isFig = true) := by decide +kernel
theorem wild_no : ¬ (bodyOf [95] ≠ [] ∧ (bodyOf [95]).all isFig = true) := by decide +kernel

theorem sSign_ne : sSign ≠ sName := by decide +kernel
theorem sWrong_ne : sWrong ≠ sName := by decide +kernel
theorem sString_ne : sString ≠ sName := by decide +kernel
theorem sort_eq {cs : List Nat} (h : cs ≠ []) : sortP cs = sortL cs := by
  unfold sortP sortL
  have hl : 1 ≤ cs.length := by
    cases cs with
    | nil => exact absurd rfl h
    | cons a r => simp
  by_cases hb : bodyOf cs ≠ [] ∧ (bodyOf cs).all isFig = true
  · rw [if_pos hb]
    by_cases hn : cs = [48] ∨ ((bodyOf cs)[0]? ≠ some 48 ∧ (bodyOf cs).length < 31)
    · rw [if_pos hn]
      have e : isNumP cs = true := by
        unfold isNumP
        rcases hn with rfl | hn
        · decide +kernel
        · rw [if_neg (by rintro ((q | q) | q)
                         · exact hb.1 q
                         · rw [hb.2] at q; cases q
                         · omega)]
          simp [hn.1]
      rw [if_pos e]
    · rw [if_neg hn]
      have e : isNumP cs = false := by
        unfold isNumP
        split
        · rfl
        · rename_i hq
          have h1 : cs ≠ [48] := fun q => hn (.inl q)
          have h2 : (bodyOf cs)[0]? = some 48 := Classical.byContradiction fun q => hn (.inr ⟨q, by
            have : ¬ 30 < (bodyOf cs).length := fun z => hq (.inr z)
            omega⟩)
          simp [h1, h2]
      rw [e, if_neg (by decide)]
      rw [if_neg (by rintro (rfl | rfl); exact flagT_no hb; exact flagF_no hb), if_neg (by rintro rfl; exact dots_no hb), if_neg (by rintro rfl; exact wild_no hb)]
      have en : isNameP cs = false := by
        unfold isNameP
        split
        · rfl
        · rename_i h20
          split
          · rfl
          · have hlen : cs.length ≤ 20 := Classical.byContradiction fun q => h20 (.inl fun z => q z.2)
            have h2 : (bodyOf cs)[0]? = some 48 := Classical.byContradiction fun q => hn (.inr ⟨q, by have := body_len cs; omega⟩)
            rw [first_body, h2]
            show (!isFig 48) = false
            rw [isFig_48]; rfl
      rw [en, if_neg (by decide)]
  · rw [if_neg hb]
    have e : isNumP cs = false := by
      unfold isNumP
      refine if_pos (.inl ?_)
      by_cases h1 : bodyOf cs = []
      · exact .inl h1
      · refine .inr ?_
        cases q : (bodyOf cs).all isFig with
        | false => rfl
        | true => exact absurd ⟨h1, q⟩ hb
    rw [e, if_neg (by decide)]
    by_cases hf : cs = flagT ∨ cs = flagF
    · rw [if_pos hf, if_pos hf]
    · rw [if_neg hf, if_neg hf]
      by_cases hd : cs = dotsC
      · rw [if_pos hd, if_pos hd]
      · rw [if_neg hd, if_neg hd]
        by_cases hw : cs = [95]
        · rw [if_pos hw, if_pos hw]
        · rw [if_neg hw, if_neg hw]
          cases hm : cs.all isNm with
          | false =>
            rw [if_pos rfl]
            have en : isNameP cs = false := by
              unfold isNameP
              split
              · rfl
              · rfl
            rw [en]; rfl
          | true =>
            rw [if_neg (c := true = false) Bool.noConfusion]
            by_cases h20 : cs.length ≤ 20
            · have en : isNameP cs = (match (bodyOf cs)[0]? with
                | none => true
                | some c => !isFig c) := by
                unfold isNameP
                rw [if_neg (by rintro (q | q | q); exact q ⟨hl, h20⟩; exact hd q; exact hw q), if_neg (by rw [hm]; exact Bool.noConfusion), first_body]
              rw [en]
              cases hb0 : (bodyOf cs)[0]? with
              | none =>
                show sName = _
                exact (if_neg (by rintro (q | ⟨c, q, _⟩); omega; cases q)).symm
              | some c =>
                show (if (!isFig c) = true then sName else sWrong) = _
                cases hc : isFig c with
                | true => exact (if_pos (.inr ⟨c, rfl, hc⟩)).symm
                | false =>
                  show sName = _
                  exact (if_neg (by
                    rintro (q | ⟨d, q, z⟩)
                    · omega
                    · cases q
                      rw [hc] at z
                      cases z)).symm
            · have en : isNameP cs = false := by
                unfold isNameP
                exact if_pos (.inl fun q => h20 q.2)
              rw [en]
              exact (if_pos (.inl (by omega))).symm

/-! ### 4. tokens -/
abbrev Tk := PySem.Str × Nat × Nat
def slice (cs : List Nat) (a b : Nat) : List Nat := (cs.drop a).take (b - a)
def strTok (cs : List Nat) (a : Nat) : Tk :=
  if cs[stop isQ cs (a + 1)]? = some 34 then ((if stop isQ cs (a + 1) + 1 - a < 103 then sString else sWrong), a, stop isQ cs (a + 1) + 1) else (sWrong, a, stop isQ cs (a + 1))
def wordTok (cs : List Nat) (a : Nat) : Tk :=
  if slice cs a (stop isEnd cs a) = [35] ∧ cs[stop isEnd cs a]? = some 39 then (sSign, a, stop isEnd cs a + 1) else (sortP (slice cs a (stop isEnd cs a)), a, stop isEnd cs a)
def isBlank (c : Nat) : Prop := c = 32 ∨ c = 10
def isSign (c : Nat) : Prop := c = 40 ∨ c = 41 ∨ c = 39
instance (c : Nat) : Decidable (isBlank c) := inferInstanceAs (Decidable (c = 32 ∨ c = 10))
instance (c : Nat) : Decidable (isSign c) := inferInstanceAs (Decidable (c = 40 ∨ c = 41 ∨ c = 39))
def tokOf (cs : List Nat) (a c : Nat) : Tk := if isSign c then (sSign, a, a + 1) else if c = 34 then strTok cs a else wordTok cs a
/-- the token that begins at a place with the sign c, if one does, and where to go on -/
def stepAt (cs : List Nat) (a c : Nat) : Option Tk × Nat :=
  if isBlank c then (none, a + 1) else if c = 59 then (none, stop isNL cs a) else (some (tokOf cs a c), (tokOf cs a c).2.2)

theorem end_iff (c : Nat) : isEnd c = true ↔ (isBlank c ∨ c = 59 ∨ isSign c ∨ c = 34) := by
  have e : endsT.cps.toList = [32, 10, 40, 41, 39, 34, 59] := by decide +kernel
  unfold isEnd isBlank isSign
  rw [decide_eq_true_eq, e]
  simp
  omega
theorem step_more {cs : List Nat} {a c : Nat} (h : cs[a]? = some c) : a < (stepAt cs a c).2 ∧ (stepAt cs a c).2 ≤ cs.length := by
  have ha := at_lt h
  unfold stepAt
  split
  · exact ⟨Nat.lt_succ_self _, ha⟩
  · rename_i h1
    split
    · rename_i h2
      rw [stop_next h (by unfold isNL; exact decide_eq_false fun q => h1 (.inr q))]
      exact ⟨le_stop, stop_le ha⟩
    · rename_i h2
      show a < (tokOf cs a c).2.2 ∧ (tokOf cs a c).2.2 ≤ cs.length
      unfold tokOf
      split
      · exact ⟨Nat.lt_succ_self _, ha⟩
      · rename_i h3
        split
        · unfold strTok
          split
          · rename_i h5
            exact ⟨by show a < stop isQ cs (a + 1) + 1; have := le_stop (p := isQ) (cs := cs) (k := a + 1); omega, at_lt h5⟩
          · exact ⟨le_stop, stop_le ha⟩
        · rename_i h4
          have hn : isEnd c = false := by
            cases q : isEnd c with
            | false => rfl
            | true => exact absurd ((end_iff c).mp q) (by rintro (z | z | z | z); exact h1 z; exact h2 z; exact h3 z; exact h4 z)
          have e := stop_next h hn
          unfold wordTok
          split
          · rename_i h5
            refine ⟨?_, at_lt h5.2⟩
            show a < stop isEnd cs a + 1
            have := le_stop (p := isEnd) (cs := cs) (k := a)
            omega
          · show a < stop isEnd cs a ∧ stop isEnd cs a ≤ cs.length
            rw [e]
            exact ⟨le_stop, stop_le ha⟩
def toksFrom (cs : List Nat) (a : Nat) : List Tk :=
  if h : a < cs.length then (stepAt cs a cs[a]).1.toList ++ toksFrom cs (stepAt cs a cs[a]).2 else []
termination_by cs.length - a
decreasing_by
  have := step_more (List.getElem?_eq_getElem h)
  omega
theorem toks_end {cs : List Nat} {a : Nat} (h : cs.length ≤ a) : toksFrom cs a = [] := by
  rw [toksFrom, dif_neg (by omega)]
theorem toks_more {cs : List Nat} {a c : Nat} (h : cs[a]? = some c) : toksFrom cs a = (stepAt cs a c).1.toList ++ toksFrom cs (stepAt cs a c).2 := by
  obtain ⟨ha, e⟩ := List.getElem?_eq_some_iff.mp h
  rw [toksFrom, dif_pos ha, e]
theorem tok_start (cs : List Nat) (a c : Nat) : (tokOf cs a c).2.1 = a := by
  unfold tokOf strTok wordTok
  repeat' split
  all_goals rfl
theorem toks_start {cs : List Nat} : ∀ (n a : Nat), cs.length - a = n → ∀ t ∈ toksFrom cs a, a ≤ t.2.1 := by
  intro n
  induction n using Nat.strongRecOn with
  | ind n ih =>
    intro a ha t ht
    by_cases hl : a < cs.length
    · obtain ⟨c, hc⟩ := some_at hl
      rw [toks_more hc] at ht
      have hm := step_more hc
      rcases List.mem_append.mp ht with q | q
      · unfold stepAt at q
        split at q
        · cases q
        · split at q
          · cases q
          · have q' : t = tokOf cs a c := by simpa using q
            rw [q', tok_start]
            exact Nat.le_refl _
      · have := ih (cs.length - (stepAt cs a c).2) (by omega) _ rfl t q
        omega
    · rw [toks_end (by omega)] at ht
      cases ht

theorem slice_all (cs : List Nat) : slice cs 0 cs.length = cs := by
  unfold slice
  rw [List.drop_zero, Nat.sub_zero, List.take_length]
theorem nm_no (c : Nat) (h : isNm c = true) : isEnd c = false ∧ c ≠ 35 := by
  have h' : c ∈ nameT.cps.toList := of_decide_eq_true h
  have k : ∀ c ∈ nameT.cps.toList, isEnd c = false ∧ c ≠ 35 := by decide +kernel
  exact k c h'
theorem name_facts {cs : List Nat} (h : isNameP cs = true) : 1 ≤ cs.length ∧ cs ≠ dotsC ∧ cs ≠ [95] ∧ (∀ c ∈ cs, isNm c = true) ∧ (∀ c, firstOf cs = some c → isFig c = false) := by
  unfold isNameP at h
  split at h
  · cases h
  · rename_i h1
    split at h
    · cases h
    · rename_i h2
      have h3 : cs.all isNm = true := by
        cases q : cs.all isNm with
        | true => rfl
        | false => exact absurd q h2
      refine ⟨Classical.byContradiction fun q => h1 (.inl fun z => q z.1), fun q => h1 (.inr (.inl q)), fun q => h1 (.inr (.inr q)), List.all_eq_true.mp h3, fun c hc => ?_⟩
      rw [hc] at h
      have h' : (!isFig c) = true := h
      simpa using h'
theorem sort_name {cs : List Nat} (h : isNameP cs = true) : sortP cs = sName := by
  obtain ⟨h1, h2, h3, h4, h5⟩ := name_facts h
  unfold sortP
  have e : isNumP cs = false := by
    unfold isNumP
    split
    · rfl
    · rename_i hq
      exfalso
      have hb : bodyOf cs ≠ [] := fun q => hq (.inl (.inl q))
      have ha : (bodyOf cs).all isFig = true := by
        cases q : (bodyOf cs).all isFig with
        | true => rfl
        | false => exact absurd (.inl (.inr q)) hq
      cases e : bodyOf cs with
      | nil => exact hb e
      | cons c r =>
        have hc : firstOf cs = some c := by rw [first_body, e]; rfl
        have := h5 c hc
        rw [e] at ha
        have := List.all_eq_true.mp ha c (List.mem_cons_self ..)
        simp_all
  have n35 : ∀ d, cs ≠ 35 :: d := fun d q => by
    subst q
    exact (nm_no 35 (h4 35 (List.mem_cons_self ..))).2 rfl
  rw [e, if_neg (by decide), if_neg (by rintro (q | q); exact n35 _ q; exact n35 _ q), if_neg h2, if_neg h3, if_pos h]
theorem name_sort {cs : List Nat} (h : sortP cs = sName) : isNameP cs = true := by
  unfold sortP at h
  split at h
  · exact absurd h (by decide +kernel)
  · split at h
    · exact absurd h (by decide +kernel)
    · split at h
      · exact absurd h (by decide +kernel)
      · split at h
        · exact absurd h (by decide +kernel)
        · split at h
          · assumption
          · exact absurd h (by decide +kernel)
/-- a text is a name if it is one token, a name -/
theorem name_iff (cs : List Nat) : isNameP cs = true ↔ (cs ≠ [] ∧ toksFrom cs 0 = [(sName, 0, cs.length)]) := by
  constructor
  · intro h
    obtain ⟨h1, h2, h3, h4, h5⟩ := name_facts h
    refine ⟨fun q => by rw [q] at h1; simp at h1, ?_⟩
    obtain ⟨c, hc⟩ := some_at (cs := cs) (k := 0) (by omega)
    have hm : c ∈ cs := List.mem_of_getElem? hc
    have hn := nm_no c (h4 c hm)
    have he : ¬ (isBlank c ∨ c = 59 ∨ isSign c ∨ c = 34) := fun q => by
      rw [(end_iff c).mpr q] at hn
      exact Bool.noConfusion hn.1
    have hs : stop isEnd cs 0 = cs.length := stop_is (Nat.zero_le _) (Nat.le_refl _) (fun q => absurd q (Nat.lt_irrefl _)) fun j d _ _ hd => (nm_no d (h4 d (List.mem_of_getElem? hd))).1
    have hw : tokOf cs 0 c = (sName, 0, cs.length) := by
      unfold tokOf
      rw [if_neg (fun q => he (.inr (.inr (.inl q)))), if_neg (fun q => he (.inr (.inr (.inr q))))]
      unfold wordTok
      rw [hs, slice_all, if_neg, sort_name h]
      rintro ⟨_, q⟩
      have := at_lt q
      omega
    rw [toks_more hc]
    unfold stepAt
    rw [if_neg (fun q => he (.inl q)), if_neg (fun q => he (.inr (.inl q))), hw]
    show [(sName, 0, cs.length)] ++ toksFrom cs cs.length = _
    rw [toks_end (Nat.le_refl _), List.append_nil]
  · rintro ⟨h0, h⟩
    obtain ⟨c, hc⟩ := some_at (cs := cs) (k := 0) (by
      cases cs with
      | nil => exact absurd rfl h0
      | cons a r => simp)
    have hm := step_more hc
    rw [toks_more hc] at h
    have later : (stepAt cs 0 c).1 = none → False := fun q => by
      rw [q] at h
      have h' : toksFrom cs (stepAt cs 0 c).2 = [(sName, 0, cs.length)] := h
      have := toks_start _ _ rfl (sName, 0, cs.length) (by rw [h']; exact List.mem_singleton.mpr rfl)
      have : (stepAt cs 0 c).2 ≤ 0 := this
      omega
    unfold stepAt at later h
    split at later
    · exact (later rfl).elim
    · rename_i h1
      rw [if_neg h1] at h
      split at later
      · exact (later rfl).elim
      · rename_i h2
        rw [if_neg h2] at h
        have ht : tokOf cs 0 c = (sName, 0, cs.length) := by
          have : tokOf cs 0 c :: toksFrom cs (tokOf cs 0 c).2.2 = [(sName, 0, cs.length)] := h
          exact (List.cons.inj this).1
        unfold tokOf at ht
        split at ht
        · exact absurd (congrArg Prod.fst ht) sSign_ne
        · split at ht
          · unfold strTok at ht
            split at ht
            · have := congrArg Prod.fst ht
              dsimp only at this
              split at this
              · exact (sString_ne this).elim
              · exact (sWrong_ne this).elim
            · exact absurd (congrArg Prod.fst ht) sWrong_ne
          · unfold wordTok at ht
            split at ht
            · exact absurd (congrArg Prod.fst ht) sSign_ne
            · have e1 := congrArg Prod.fst ht
              have e2 : stop isEnd cs 0 = cs.length := congrArg (fun t => t.2.2) ht
              dsimp only at e1
              rw [e2, slice_all] at e1
              exact name_sort e1

/-! ### 5. the program's way to a string's end -/
/-- the program: the quote is sought up to the line's end; the law: the first of both -/
theorem quote_found {cs : List Nat} {a j : Nat} (h : cs[a]? = some 34) (h1 : a + 1 ≤ j) (h2 : j < stop isNL cs a) (h3 : cs[j]? = some 34) (h4 : ∀ i, a + 1 ≤ i → i < j → cs[i]? ≠ some 34) : stop isQ cs (a + 1) = j := by
  refine stop_is h1 (Nat.le_of_lt (at_lt h3)) (fun _ => ⟨34, h3, by decide⟩) fun i c g1 g2 g3 => ?_
  have n1 : isNL c = false := stop_before (k := a) (by omega) (by omega) g3
  have n2 : c ≠ 34 := fun q => h4 i g1 g2 (by rw [g3, q])
  unfold isNL at n1
  unfold isQ
  rw [n1, decide_eq_false n2]
  rfl
theorem quote_none {cs : List Nat} {a : Nat} (h : cs[a]? = some 34) (h4 : ∀ i, a + 1 ≤ i → i < stop isNL cs a → cs[i]? ≠ some 34) : stop isQ cs (a + 1) = stop isNL cs a ∧ cs[stop isQ cs (a + 1)]? ≠ some 34 := by
  have ha := at_lt h
  have e : stop isNL cs a = stop isNL cs (a + 1) := stop_next h (by decide)
  have e2 : stop isQ cs (a + 1) = stop isNL cs a := by
    rw [e]
    refine stop_is le_stop (stop_le ha) (fun q => ?_) fun i c g1 g2 g3 => ?_
    · obtain ⟨c, hc, hp⟩ := stop_hit q
      refine ⟨c, hc, ?_⟩
      unfold isNL at hp
      unfold isQ
      rw [hp]
      rfl
    · have n1 : isNL c = false := stop_before (k := a + 1) g1 g2 g3
      have n2 : c ≠ 34 := fun q => h4 i g1 (by rw [e]; exact g2) (by rw [g3, q])
      unfold isNL at n1
      unfold isQ
      rw [n1, decide_eq_false n2]
      rfl
  refine ⟨e2, fun q => ?_⟩
  rw [e2] at q
  have hlt := at_lt q
  obtain ⟨c, hc, hp⟩ := stop_hit hlt
  rw [q] at hc
  cases hc
  exact absurd hp (by decide)
end K1
set_option Elab.async false
set_option linter.all false
set_option maxRecDepth 100000
set_option maxHeartbeats 4000000
namespace K1
open PySem L2

/-! ### 1. what a caller knows of a def -/
structure Cal (P : Program) (w : World) (K : PySem.W.Frag) (mg : PySem.Str → Option Value) (base : Heap) (x : PySem.Str) (k : Nat) (ps : List PySem.Str) (sp : Sp) : Prop where
  ex : ∃ f fd, FnOk P w K mg base CX0 k f fd ps sp ∧ mg x = some (.ref f) ∧ PySem.W.keepIn K (.ref f) = true ∧ Binds K fd ps []
section
variable {X : Cx} {e : Expr} {es : List Expr} {x : PySem.Str} {k : Nat} {ps : List PySem.Str} {sp : Sp} {t : TA} {E : XK} {p pos : Pos}
theorem pe_cal (C : Cal X.prog X.w X.K X.mg X.base x k ps sp) (hr : Room k X.A) (hg : Gl X x) (hx : Passes CX0 X E)
    (ha : PA X (e :: es) t) (hdb : (x == ("__debug__" : PySem.Str)) = false := by decide) (he : starEach (e :: es) X.env = (false, eval e X.env) :: starEach es X.env := by rfl) (hpl : (backTo pos (starEach es X.env)).any (·.1) = false := by rfl) :
    PE X (.Call (.Name x p) (e :: es) [] pos) (tCall sp [] E t) := by
  obtain ⟨f, fd, F, hm, hk, hb⟩ := C.ex
  exact pe_call F hr hg hm hk hb .nil hx ha hdb he hpl
theorem pe_cal0 (C : Cal X.prog X.w X.K X.mg X.base x k ps sp) (hr : Room k X.A) (hg : Gl X x) (hx : Passes CX0 X E)
    (hdb : (x == ("__debug__" : PySem.Str)) = false := by decide) :
    PE X (.Call (.Name x p) [] [] pos) (tCall sp [] E tNil) := by
  obtain ⟨f, fd, F, hm, hk, hb⟩ := C.ex
  exact pe_call0 F hr hg hm hk hb .nil hx hdb
end

/-! ### 2. two rules that the layer lacks: text * int, list(text) -/
theorem reps_size (a : Array Nat) : ∀ (k : Nat) (b : Array Nat), ((List.replicate k a).foldl (· ++ ·) b).size = b.size + k * a.size
  | 0, b => by simp
  | k + 1, b => by
    rw [List.replicate_succ, List.foldl_cons, reps_size a k, Array.size_append, Nat.succ_mul]
    omega
theorem mul_len (x : PySem.Str) (n : Int) : (Txt.mul x n).length ≤ x.length * n.toNat := by
  unfold Txt.mul
  by_cases h : n < 1
  · rw [if_pos h]
    exact Nat.zero_le _
  · rw [if_neg h]
    split
    · rename_i q
      rw [Bool.or_eq_true, beq_iff_eq, beq_iff_eq] at q
      rcases q with q | q
      · subst q
        simp
      · rw [q]; simp
    · show ((List.replicate n.toNat x.cps).foldl (· ++ ·) #[]).size ≤ _
      rw [reps_size]
      show 0 + n.toNat * x.length ≤ _
      rw [Nat.zero_add, Nat.mul_comm]
      exact Nat.le_refl _
theorem op_mul_str {X : Cx} : OpR X (binaryOp .Mult) (fun x y H Q => ∃ (i : PySem.Str) (j : Int), x = .str i ∧ y = .int j ∧ i.length ≤ 1000 ∧ 0 ≤ j ∧ j ≤ 1000 ∧ Q (.str (Txt.mul i j)) H) := by
  intro pins s σ H x y v u Q I rx ry h
  obtain ⟨i, j, rfl, rfl, hi, h0, h1, q⟩ := h
  obtain ⟨t, rfl⟩ := rx
  obtain ⟨t', rfl⟩ := ry
  have hm : i.length * j.toNat ≤ 1000000 := Nat.le_trans (Nat.mul_le_mul hi (show j.toNat ≤ 1000 by omega)) (by decide)
  refine PySem.SB.mul ⟨?_, fun h2 _ => ?_, fun _ _ => ?_⟩ fun t' tk => ⟨.str (Txt.mul i j), H, I.tok _, ⟨_, rfl⟩, q⟩
  · rw [Bool.or_eq_false_iff]
    exact ⟨decide_eq_false (by omega), decide_eq_false (by omega)⟩
  · intro q
    have h3 : (1000 : Int) ≤ (2 ^ 63 - 1) / j := Int.le_ediv_of_mul_le (by omega) (by omega)
    omega
  · unfold Builtin.Str.tooLong
    refine decide_eq_false ?_
    have : sizeLine = 16777216 := sizeLine_eq
    omega
theorem call_list_text {X : Cx} (hc : X.calm = true) : CallR X (.type "list") (fun xs H Q => ∃ z : PySem.Str, xs = [.str z] ∧ z.length ≤ sizeLine ∧ ∀ l, H l = none → Q (.ref l) (upd H l (.lst (z.cps.toList.map fun c => V.str ⟨#[c]⟩)))) := by
  intro pins s σ H xs us Q I r h
  obtain ⟨z, rfl, hz, q⟩ := h
  obtain ⟨u, rfl, rx⟩ := vals1 r
  obtain ⟨t, rfl⟩ := rx
  refine PySem.call_list_str (I.ok.hd hc) z t (fun h' tk acc' c' kp e it => ?_) hz
  have hv : Vals (z.cps.toList.map fun c => V.str ⟨#[c]⟩) acc'.toList := by
    have hl : acc'.toList.length = z.cps.toList.length := by
      rw [Array.length_toList, Array.length_toList]
      exact it.1
    have hg : ∀ j v, acc'.toList[j]? = some v → ∃ c u, z.cps.toList[j]? = some c ∧ v = Value.str ⟨#[c]⟩ u := fun j v hj => by
      obtain ⟨c, u, h1, h2⟩ := it.2 j v (by rw [← Array.getElem?_toList]; exact hj)
      exact ⟨c, u, by rw [Array.getElem?_toList]; exact h1, h2⟩
    revert hg hl
    generalize acc'.toList = vs
    generalize z.cps.toList = cs
    intro hl hg
    induction cs generalizing vs with
    | nil =>
      cases vs with
      | nil => exact .nil
      | cons a r => cases hl
    | cons c cs ih =>
      cases vs with
      | nil => cases hl
      | cons a r =>
        obtain ⟨d, u, h1, h2⟩ := hg 0 a rfl
        have e : c = d := Option.some.inj h1
        subst e
        exact .cons ⟨u, h2⟩ (ih r (by simpa using hl) fun j v hj => hg (j + 1) v hj)
  refine ⟨.ref s.heap.objs.size, _, I.laid (t' := tk) kp (Nat.le_refl _) (show ObjOk X.prog X.w _ h' _ (.lst _) from ⟨?_, acc'.toList, c', hv, ?_⟩), rfl, q _ (I.hok.fresh (Nat.le_refl _))⟩
  · rw [List.length_map, Array.length_toList]
    exact hz
  · rw [e]

/-! ### 3. loops over a text -/
theorem lc_str {x : PySem.Str} {g : TG} {tt : TT} {te : TE} {vs : List Nat} {σ : St} {H1 : Hp} {D : Addr} {Qd : Hp → Prop} (Pv : Nat → Hp → Prop) (h0 : Pv 0 (upd H1 D (.lst [])))
    (hs : ∀ i c H, x.cps.toList[i]? = some c → Pv i H → g (.str ⟨#[c]⟩) (wipe σ vs) H fun σ2 H2 => wipe σ2 vs = wipe σ vs ∧ tt σ2 H2 fun b H3 =>
      if b = true then te σ2 H3 fun y H4 => ∃ acc, H4 D = some (.lst acc) ∧ acc.length < sizeLine ∧ Pv (i + 1) (upd H4 D (.lst (acc ++ [y]))) else Pv (i + 1) H3) (hd : ∀ H, Pv x.length H → Qd H) :
    ∃ W : Nat → Nat → Hp → Prop, (∃ m, W 0 m (upd H1 D (.lst []))) ∧ ∀ i m H, W i m H →
      ((Its x).stop i H ∧ Qd H) ∨ ((Its x).go i H ∧ ∃ Nx : Hp → Prop, (∀ H', Nx H' → ∃ m', m' < m ∧ W (i + 1) m' H') ∧ ∀ v H', (Its x).yld i H v H' → g v (wipe σ vs) H' fun σ2 H2 => wipe σ2 vs = wipe σ vs ∧ tt σ2 H2 fun b H3 =>
        if b = true then te σ2 H3 fun y H4 => ∃ acc, H4 D = some (.lst acc) ∧ acc.length < sizeLine ∧ Nx (upd H4 D (.lst (acc ++ [y]))) else Nx H3) := by
  refine ⟨fun i m H => m = x.length - i ∧ i ≤ x.length ∧ Pv i H, ⟨x.length, by simp, Nat.zero_le _, h0⟩, ?_⟩
  rintro i m H ⟨rfl, hi, p⟩
  by_cases hlt : i < x.length
  · refine .inr ⟨hlt, Pv (i + 1), fun H' p' => ⟨x.length - (i + 1), by omega, rfl, hlt, p'⟩, fun v H' y => ?_⟩
    obtain ⟨e, c, hc, ev⟩ := y
    subst e ev
    exact hs i c _ (by rw [Array.getElem?_toList]; exact hc) p
  · have e : i = x.length := by omega
    subst e
    exact .inl ⟨Nat.le_refl _, hd H p⟩
theorem for_str {x : PySem.Str} {g : TG} {tb : TS} {D : Ends} {σ : St} {H : Hp} (Pv : Nat → St → Hp → Prop) (h0 : Pv 0 σ H)
    (hs : ∀ i c σ H, x.cps.toList[i]? = some c → Pv i σ H → g (.str ⟨#[c]⟩) σ H fun σ2 H2 => tb { D with nx := Pv (i + 1), ct := Pv (i + 1), bk := D.nx } σ2 H2) (hd : ∀ σ H, Pv x.length σ H → D.nx σ H) :
    ∃ W : Nat → Nat → St → Hp → Prop, (∃ m, W 0 m σ H) ∧ ∀ i m σ H, W i m σ H →
      ((Its x).stop i H ∧ D.nx σ H) ∨ ((Its x).go i H ∧ ∃ N : St → Hp → Prop, (∀ σ' H', N σ' H' → ∃ m', m' < m ∧ W (i + 1) m' σ' H') ∧ ∀ v H', (Its x).yld i H v H' → g v σ H' fun σ2 H2 => tb { D with nx := N, ct := N, bk := D.nx } σ2 H2) := by
  refine ⟨fun i m σ H => m = x.length - i ∧ i ≤ x.length ∧ Pv i σ H, ⟨x.length, by simp, Nat.zero_le _, h0⟩, ?_⟩
  rintro i m σ H ⟨rfl, hi, p⟩
  by_cases hlt : i < x.length
  · refine .inr ⟨hlt, Pv (i + 1), fun σ' H' p' => ⟨x.length - (i + 1), by omega, rfl, hlt, p'⟩, fun v H' y => ?_⟩
    obtain ⟨e, c, hc, ev⟩ := y
    subst e ev
    exact hs i c σ _ (by rw [Array.getElem?_toList]; exact hc) p
  · have e : i = x.length := by omega
    subst e
    exact .inl ⟨Nat.le_refl _, hd σ H p⟩

/-- a while: the invariant W with its measure; Ex holds where it ends -/
theorem while_ends {c : TT} {tb : TS} {D : Ends} {σ : L2.St} {H : Hp} (W : Nat → L2.St → Hp → Prop) (Ex : L2.St → Hp → Prop) (h0 : ∃ m, W m σ H)
    (hs : ∀ m σ H, W m σ H → ∀ (B : L2.St → Hp → Prop), (∀ σ' H', Ex σ' H' → B σ' H') →
      c σ H fun b H1 => if b = true then ∃ N : L2.St → Hp → Prop, (∀ σ' H', N σ' H' → ∃ m', m' < m ∧ W m' σ' H') ∧ tb { D with nx := N, ct := N, bk := B } σ H1 else B σ H1)
    (after : ∀ σ H, Ex σ H → D.nx σ H) : tWhile c tb D σ H := ⟨W, h0, fun m σ H w => hs m σ H w D.nx after⟩
/-- the next turn of a while, with a less measure -/
abbrev Less (W : Nat → L2.St → Hp → Prop) (m : Nat) : L2.St → Hp → Prop := fun σ' H' => ∃ m', m' < m ∧ W m' σ' H'

/-! ### 4. texts by their codes -/
abbrev cod (z : PySem.Str) : List Nat := z.cps.toList
theorem cod_len (z : PySem.Str) : (cod z).length = z.length := Array.length_toList
theorem str_ext {a b : PySem.Str} (h : cod a = cod b) : a = b := by
  cases a; cases b
  exact congrArg PySem.Str.mk (Array.toList_inj.mp h)
theorem cod_mk (cs : List Nat) : cod ⟨cs.toArray⟩ = cs := rfl
theorem str_eq {a b : PySem.Str} : (V.str a = V.str b) ↔ cod a = cod b := ⟨fun h => by cases h; rfl, fun h => by rw [str_ext h]⟩
theorem dec_str (a b : PySem.Str) : decide (V.str a = V.str b) = decide (cod a = cod b) := by
  by_cases h : cod a = cod b
  · rw [decide_eq_true h, decide_eq_true (str_eq.mpr h)]
  · rw [decide_eq_false h, decide_eq_false (fun q => h (str_eq.mp q))]
theorem cod_cut (z : PySem.Str) (a b : Nat) : cod (cutS z (some (a : Int)) (some (b : Int))) = slice (cod z) (min a z.length) (min b z.length) := by
  unfold cutS
  rw [HT.sIx_nat, HT.sIx_nat]
  rfl
theorem cod_cut_in (z : PySem.Str) {a b : Nat} (ha : a ≤ z.length) (hb : b ≤ z.length) : cod (cutS z (some (a : Int)) (some (b : Int))) = slice (cod z) a b := by
  rw [cod_cut, Nat.min_eq_left ha, Nat.min_eq_left hb]
theorem cod_from (z : PySem.Str) (a : Nat) : cod (cutS z (some (a : Int)) none) = (cod z).drop a := by
  unfold cutS
  rw [HT.sIx_nat, HT.sIx_none]
  show ((cod z).drop (min a z.length)).take (z.length - min a z.length) = (cod z).drop a
  have hl := cod_len z
  by_cases h : a ≤ z.length
  · rw [Nat.min_eq_left h, ← hl, ← List.length_drop, List.take_length]
  · rw [Nat.min_eq_right (by omega), List.drop_eq_nil_of_le (by omega), List.drop_eq_nil_of_le (by omega)]
    simp
theorem cod_upto (z : PySem.Str) (b : Nat) : cod (cutS z none (some (b : Int))) = (cod z).take b := by
  unfold cutS
  rw [HT.sIx_nat, HT.sIx_none]
  show ((cod z).drop 0).take (min b z.length - 0) = (cod z).take b
  have hl := cod_len z
  rw [List.drop_zero, Nat.sub_zero]
  by_cases h : b ≤ z.length
  · rw [Nat.min_eq_left h]
  · rw [Nat.min_eq_right (by omega), List.take_of_length_le (by omega), List.take_of_length_le (by omega)]
theorem cut_len (z : PySem.Str) (a b : Option Int) : (cutS z a b).length ≤ z.length := L2.cutS_length z a b
theorem at_one {z : PySem.Str} {i c : Nat} (h : (cod z)[i]? = some c) : atI (cod z) (i : Int) = some c := atI_nat h
theorem small2 {n : Nat} (h : n ≤ 2000) : n ≤ sizeLine := by
  rw [sizeLine_eq]
  omega
theorem same_upd {H : Hp} {p : Addr} {o : HO} (h : H p = none) : Same H (upd H p o) := fun b x e => by
  rw [upd_ne (ne_of_none e h)]
  exact e
end K1
set_option Elab.async false
set_option linter.all false
set_option maxRecDepth 100000
set_option maxHeartbeats 4000000
namespace K1
open PySem L2

/-! ### the text by places -/
def topS (i : Nat) : Stmt := PySem.Challenge.pw_wherewritten_k01_tokens_and_names.main.body.getD i (.Pass ⟨0, 0, 0, 0⟩)
abbrev s_are_figures : Stmt := topS 9
abbrev s_is_number_word : Stmt := topS 10
abbrev s_is_name : Stmt := topS 11
abbrev s_sort_of : Stmt := topS 12
abbrev s_end_of_line : Stmt := topS 13
abbrev s_string_token : Stmt := topS 14
abbrev s_word_token : Stmt := topS 15
abbrev s_tokens : Stmt := topS 16

/-- what the top has written, besides the defs -/
structure TopF (K : PySem.W.Frag) (w : World) (mg : PySem.Str → Option Value) (aF aS : Addr) (es : Array DictEntry) (n : Nat) (t1 t2 t3 t4 t5 t6 : Tok) : Prop where
  g_LONGEST_STRING : mg "LONGEST_STRING" = some (.int 100 t1)
  g_MOST_FIGURES : mg "MOST_FIGURES" = some (.int 30 t2)
  g_LONGEST_NAME : mg "LONGEST_NAME" = some (.int 20 t3)
  g_FIGURES : mg "FIGURES" = some (.str figsT t4)
  g_NAME_SIGNS : mg "NAME_SIGNS" = some (.str nameT t5)
  g_ENDS_OF_WORDS : mg "ENDS_OF_WORDS" = some (.str endsT t6)
  g_FLAGS : mg "FLAGS" = some (.ref aF)
  flags : KDict K w aF es n
  flag : ∀ z : PySem.Str, PySem.W.nsIn K aF z = some (if cod z = flagT then some (.bool true) else if cod z = flagF then some (.bool false) else none)
  g_SPECIAL_NAMES : mg "SPECIAL_NAMES" = some (.ref aS)
  special : ∀ H, SqT K H aS [.str "...", .str "_"]
  n_len : mg "len" = none
  n_all : mg "all" = none
  n_int : mg "int" = none
  n_list : mg "list" = none
  n_range : mg "range" = none
  n_isinstance : mg "isinstance" = none
  n_bool : mg "bool" = none
  n_str : mg "str" = none
  n_tuple : mg "tuple" = none
section
variable {K : PySem.W.Frag} {w : World} {mg : PySem.Str → Option Value} {aF aS : Addr} {es : Array DictEntry} {n : Nat} {t1 t2 t3 t4 t5 t6 : Tok}
theorem TopF.r_LONGEST_STRING (_ : TopF K w mg aF aS es n t1 t2 t3 t4 t5 t6) : RelV (.int 100) (.int 100 t1) := ⟨_, rfl⟩
theorem TopF.r_MOST_FIGURES (_ : TopF K w mg aF aS es n t1 t2 t3 t4 t5 t6) : RelV (.int 30) (.int 30 t2) := ⟨_, rfl⟩
theorem TopF.r_LONGEST_NAME (_ : TopF K w mg aF aS es n t1 t2 t3 t4 t5 t6) : RelV (.int 20) (.int 20 t3) := ⟨_, rfl⟩
theorem TopF.r_FIGURES (_ : TopF K w mg aF aS es n t1 t2 t3 t4 t5 t6) : RelV (.str figsT) (.str figsT t4) := ⟨_, rfl⟩
theorem TopF.r_NAME_SIGNS (_ : TopF K w mg aF aS es n t1 t2 t3 t4 t5 t6) : RelV (.str nameT) (.str nameT t5) := ⟨_, rfl⟩
theorem TopF.r_ENDS_OF_WORDS (_ : TopF K w mg aF aS es n t1 t2 t3 t4 t5 t6) : RelV (.str endsT) (.str endsT t6) := ⟨_, rfl⟩
end

/-! ### the promises -/
/-- a def of one text that hands back a flag; it may make new objects -/
def spFlag (f : List Nat → Bool) : Sp := fun vs H Q _ => ∃ z : PySem.Str, vs = [.str z] ∧ z.length ≤ 2000 ∧ ∀ H', Same H H' → Q (.bl (f (cod z))) H'
def spSort (f : List Nat → PySem.Str) : Sp := fun vs H Q _ => ∃ z : PySem.Str, vs = [.str z] ∧ z.length ≤ 2000 ∧ ∀ H', Same H H' → Q (.str (f (cod z))) H'
def figsOnly (cs : List Nat) : Bool := decide (cs ≠ []) && cs.all isFig

section
variable {P : Program} {w : World} {K : PySem.W.Frag} {mg : PySem.Str → Option Value} {base : Heap} {aF aS : Addr} {es : Array DictEntry} {n : Nat} {t1 t2 t3 t4 t5 t6 : Tok}

/-! ### all([sign in T for sign in text]) -/
def inAll (T : PySem.Str) (cs : List Nat) : List V := cs.map fun c => V.bl (decide (c ∈ cod T))
theorem inAll_take (T : PySem.Str) {cs : List Nat} {i c : Nat} (h : cs[i]? = some c) : inAll T (cs.take i) ++ [V.bl (decide (c ∈ cod T))] = inAll T (cs.take (i + 1)) := by
  unfold inAll
  rw [List.take_add_one, h]
  simp
theorem all_bl (bs : List Bool) : (bs.all id) = (bs.all fun b => b) := rfl
theorem inAll_bl (T : PySem.Str) (cs : List Nat) : inAll T cs = (cs.map fun c => decide (c ∈ cod T)).map V.bl := by
  unfold inAll
  rw [List.map_map]
  rfl
theorem all_map (T : PySem.Str) (cs : List Nat) : ((cs.map fun c => decide (c ∈ cod T)).all id) = cs.all fun c => decide (c ∈ cod T) := by
  rw [List.all_map]
  rfl

theorem seq_cut {t u : TS} {D : Ends} {σ : L2.St} {H : Hp} (I : L2.St → Hp → Prop) (ht : ∀ N : L2.St → Hp → Prop, (∀ σ' H', I σ' H' → N σ' H') → t { D with nx := N } σ H) (hu : ∀ σ' H', I σ' H' → u D σ' H') : tSeq t u D σ H := ht (u D) hu
theorem if_join {c : Bool} {ta tb : TE} {σ : L2.St} {H : Hp} {Kt : V → Hp → Prop} (I : V → Prop) (ha : c = true → ∀ Q : V → Hp → Prop, (∀ v, I v → Q v H) → ta σ H Q) (hb : c = false → ∀ Q : V → Hp → Prop, (∀ v, I v → Q v H) → tb σ H Q) (key : ∀ v, I v → Kt v H) :
    if c = true then ta σ H Kt else tb σ H Kt := by
  cases c with
  | true => exact iteT (ha rfl _ key)
  | false => exact iteF (hb rfl _ key)
theorem all_read {T z : PySem.Str} {σ : L2.St} {H : Hp} {Q : VK} {i0 i : Nat} (h0 : σ[i0]? = some (some (.str z))) (hi : i < σ.length) (hz : z.length ≤ 2000)
    (q : ∀ H', Same H H' → Q (.bl ((cod z).all fun c => decide (c ∈ cod T))) H') :
    tCB (rAll K) (tCons (tLc (iStr (tVar i0)) (gName i) tYes (tOp (fun x y H Q => ∃ (c : Nat) (z : PySem.Str), x = .str ⟨#[c]⟩ ∧ y = .str z ∧ Q (.bl (decide (c ∈ z.cps.toList))) H) (tVar i) (tC (.str T))) [i]) tNil) σ H Q := by
  refine ⟨_, h0, z, rfl, fun D new => lc_str (Pv := fun k H' => H' = upd H D (.lst (inAll T ((cod z).take k)))) rfl ?_ ?_⟩
  · rintro k c H' hc rfl
    refine ⟨?_, ?_⟩
    · show ((σ.set i none).set i (some _)).set i none = σ.set i none
      rw [List.set_set, List.set_set]
    · unfold tYes
      dsimp only
      rw [if_pos rfl]
      refine ⟨_, ?_, c, T, rfl, rfl, _, upd_same, ?_, ?_⟩
      · show ((σ.set i none).set i (some _))[i]? = _
        rw [List.getElem?_set_self (by rw [List.length_set]; exact hi)]
      · unfold inAll
        rw [List.length_map, List.length_take, sizeLine_eq]
        have := cod_len z
        omega
      · rw [upd_upd]
        exact congrArg (fun l => upd H D (.lst l)) (inAll_take T hc)
  · rintro H' rfl
    refine ⟨D, (cod z).map (fun c => decide (c ∈ cod T)), rfl, SqL.of ?_, ?_⟩
    · rw [upd_same, List.take_of_length_le (Nat.le_of_eq (cod_len z)), inAll_bl]
    · rw [all_map]
      exact q _ (same_upd new)

theorem sc_are_figures : FnScope ["text", "sign"] ["text"] (defScope s_are_figures) := ⟨rfl, rfl, rfl, by decide +kernel, rfl, by decide +kernel, by decide +kernel⟩
theorem ok_are_figures {f : Addr} {fd : FuncData} (T : TopF K w mg aF aS es n t1 t2 t3 t4 t5 t6) (F : Fun K "are_figures" "are_figures" s_are_figures f fd) : FnOk P w K mg base CX0 1 f fd ["text"] (spFlag figsOnly) := by
  have sc := sc_are_figures
  refine F.ok sc (fun vs H Q E h => ?_) (fun cdv A outer s H vs Q E hr h => ?_)
  · obtain ⟨z, rfl, _⟩ := h
    rfl
  obtain ⟨z, rfl, hz, q⟩ := h
  refine ⟨_, (pss_one (ps_ret (pe_and (pe_cmpR op_ne (pv 0) pe_str (nomark _)) (pe_one (pe_callB (cr_all rfl) (by rfl) T.n_all (by decide +kernel) (pa_cons (pe_lc (own := [("sign", 1)]) rfl sc.nd (pi_str (pv 0)) (blkOk_by (own := [("sign", 1)]) (N := ["text", "sign"]) (sc := defScope s_are_figures) (by decide +kernel)) (fun _ _ _ _ _ => (pg_name (i := 1) sc.nd rfl (.inl rfl))) (fun _ _ _ _ _ => pts_nil) (fun _ _ _ _ _ => (pe_cmpR op_in_sign (pv 1) (pe_glob rfl T.g_FIGURES T.r_FIGURES) (by rfl)))) pa_nil)))))), ?_⟩
  refine ⟨_, rfl, rfl, _, rfl, ?_⟩
  rw [dec_str]
  refine ite2 (fun c => ?_) (fun c => ?_)
  · refine all_read rfl (Nat.lt_succ_self 1) hz fun H' s1 => ?_
    have q' := q H' s1
    unfold figsOnly at q'
    have e : decide (cod z ≠ []) = true := by
      rw [decide_not]
      exact c
    rw [e] at q'
    exact q'
  · have q' := q H (Same.refl H)
    unfold figsOnly at q'
    have e : decide (cod z ≠ []) = false := by
      rw [decide_not]
      exact Bool.eq_false_iff.mpr c
    rw [e] at q'
    exact q'

/-! ### is_number_word -/
theorem sc_is_number_word : FnScope ["word", "figures"] ["word"] (defScope s_is_number_word) := ⟨rfl, rfl, rfl, by decide +kernel, rfl, by decide +kernel, by decide +kernel⟩
theorem ok_is_number_word {f : Addr} {fd : FuncData} (T : TopF K w mg aF aS es n t1 t2 t3 t4 t5 t6) (F : Fun K "is_number_word" "is_number_word" s_is_number_word f fd) (C_are_figures : Cal P w K mg base "are_figures" 1 ["text"] (spFlag figsOnly)) : FnOk P w K mg base CX0 2 f fd ["word"] (spFlag isNumP) := by
  have sc := sc_is_number_word
  refine F.ok sc (fun vs H Q E h => ?_) (fun cdv A outer s H vs Q E hr h => ?_)
  · obtain ⟨z, rfl, _⟩ := h
    rfl
  obtain ⟨z, rfl, hz, q⟩ := h
  refine ⟨_, (pss_cons (ps_set (i := 1) sc.nd rfl (Or.inl rfl) (pe_ifExp (pt_cmpR op_eq (pe_slice sl_str (pv 0) po_none (po_some pe_int)) pe_str (nomark _)) (pe_slice sl_str (pv 0) (po_some pe_int) po_none) (pv 0)))
    (pss_cons (ps_if (PW.pt (pw_or (pt_not (pt_val (pe_cal C_are_figures (hr.mono (by decide)) (by rfl) pass0 (pa_cons (pv 1) pa_nil)))) (pw_or1 (pt_cmpR op_gt (pe_callB call_len_str (by rfl) T.n_len PySem.boot_len (pa_cons (pv 1) pa_nil)) (pe_glob rfl T.g_MOST_FIGURES T.r_MOST_FIGURES) (nomark _))))) (pss_one (ps_ret pe_bl)) pss_nil)
    (pss_one (ps_ret (pe_or (pe_cmpR op_eq (pv 0) pe_str (nomark _)) (pe_one (pe_cmpR op_ne (pe_ix ix_str (pv 1) pe_int (fun _ _ => rfl)) pe_str (nomark _)))))))), ?_⟩
  refine ⟨_, rfl, _, rfl, z, rfl, small2 hz, rfl, _, rfl, ?_⟩
  rw [dec_str, show (1 : Int) = ((1 : Nat) : Int) from rfl, cod_upto]
  refine if_join (fun v => ∃ fz : PySem.Str, v = .str fz ∧ cod fz = bodyOf (cod z) ∧ fz.length ≤ 2000) (fun c Q' k => ?_) (fun c Q' k => ?_) ?_
  · refine ⟨_, rfl, _, rfl, z, rfl, small2 hz, k _ ⟨_, rfl, ?_, Nat.le_trans (cut_len ..) hz⟩⟩
    rw [cod_from]
    unfold bodyOf
    exact (if_pos (of_decide_eq_true c)).symm
  · refine ⟨_, rfl, k _ ⟨_, rfl, ?_, hz⟩⟩
    unfold bodyOf
    exact (if_neg (of_decide_eq_false c)).symm
  rintro v ⟨fz, rfl, ef, lf⟩
  refine ⟨_, rfl, fz, rfl, lf, fun H1 s1 => ⟨_, rfl, ?_⟩⟩
  have q1 := q H1 s1
  unfold isNumP at q1
  rw [← ef] at q1
  cases hfo : figsOnly (cod fz) with
  | false =>
    have hq : cod fz = [] ∨ (cod fz).all isFig = false := ?_
    · rw [if_pos (.inl hq)] at q1
      exact iteT (iteT q1)
    · unfold figsOnly at hfo
      rw [Bool.and_eq_false_iff] at hfo
      rcases hfo with h | h
      · exact .inl (Classical.byContradiction fun n => of_decide_eq_false h n)
      · exact .inr h
  | true =>
    refine iteF ⟨_, rfl, fz, rfl, small2 lf, _, _, rfl, rfl, _, rfl, ?_⟩
    unfold figsOnly at hfo
    rw [Bool.and_eq_true] at hfo
    have hn : ¬ (cod fz = [] ∨ (cod fz).all isFig = false) := by
      rintro (h | h)
      · exact of_decide_eq_true hfo.1 h
      · rw [h] at hfo
        exact Bool.noConfusion hfo.2
    refine ite2 (fun c => ?_) (fun c => ?_)
    · have c' := of_decide_eq_true c
      rw [if_pos (.inr (by rw [cod_len]; omega))] at q1
      exact q1
    · have c' := of_decide_eq_false (Bool.eq_false_iff.mpr c)
      rw [if_neg (by rintro (h | h); exact hn h; rw [cod_len] at h; omega)] at q1
      refine ⟨_, rfl, rfl, _, rfl, ?_⟩
      rw [dec_str]
      have e48 : (cod z = cod (PySem.Str.ofString "0")) = (cod z = [48]) := by rw [show cod (PySem.Str.ofString "0") = [48] by decide +kernel]
      by_cases hz0 : cod z = [48]
      · rw [decide_eq_true (by rw [e48]; exact hz0)]
        rw [decide_eq_true hz0] at q1
        exact iteT q1
      · rw [decide_eq_false (by rw [e48]; exact hz0)]
        rw [decide_eq_false hz0] at q1
        obtain ⟨d, hd⟩ : ∃ d, (cod fz)[0]? = some d := by
          cases hc : cod fz with
          | nil => exact absurd (.inl hc) hn
          | cons a r => exact ⟨a, rfl⟩
        refine iteF ⟨_, rfl, fz, 0, d, rfl, rfl, small2 lf, at_one hd, rfl, ?_⟩
        rw [dec_str, show cod (PySem.Str.ofString "0") = [48] by decide +kernel]
        rw [hd] at q1
        have e : (!decide (cod ⟨#[d]⟩ = [48])) = (false || decide (some d ≠ some 48)) := by
          show (!decide ([d] = [48])) = _
          by_cases h : d = 48 <;> simp [h]
        rw [e]
        exact q1

/-! ### is_name -/
theorem eqV_str (a b : PySem.Str) : eqV (.str a) (.str b) = decide (cod b = cod a) := by
  show (a == b) = _
  by_cases h : cod b = cod a
  · rw [decide_eq_true h, str_ext h, beq_self_eq_true]
  · rw [decide_eq_false h]
    exact beq_false_of_ne fun q => h (by rw [q])
theorem in_special (z : PySem.Str) : inV (.str z) [.str (PySem.Str.ofString "..."), .str (PySem.Str.ofString "_")] = decide (cod z = dotsC ∨ cod z = [95]) := by
  show (eqV (.str _) (.str z) || (eqV (.str _) (.str z) || false)) = _
  rw [eqV_str, eqV_str, show cod (PySem.Str.ofString "...") = dotsC by decide +kernel, show cod (PySem.Str.ofString "_") = [95] by decide +kernel, Bool.or_false]
  by_cases h1 : cod z = dotsC <;> by_cases h2 : cod z = [95] <;> simp [h1, h2]
theorem one_at {cs : List Nat} {m c : Nat} (h : m ≤ cs.length) : (cs.drop (min m cs.length)).take (min (m + 1) cs.length - min m cs.length) = [c] ↔ cs[m]? = some c := by
  rw [Nat.min_eq_left h]
  by_cases h2 : m < cs.length
  · rw [Nat.min_eq_left h2, show m.succ - m = 1 by omega, take1, List.getElem?_drop]
    rfl
  · rw [Nat.min_eq_right (by omega), List.getElem?_eq_none (by omega), Nat.sub_eq_zero_of_le (by omega)]
    simp
theorem one_cut {cs : List Nat} {n : Nat} (h : cs.length = n) : (cs.drop (min 1 n)).take (min 2 n - min 1 n) = (cs[1]?).toList := by
  subst h
  match cs with
  | [] => rfl
  | [_] => rfl
  | _ :: b :: r =>
    have e1 : min 1 (r.length + 1 + 1) = 1 := by omega
    have e2 : min 2 (r.length + 1 + 1) - 1 = 1 := by omega
    simp [e1, e2]
theorem sc_is_name : FnScope ["text", "sign", "first"] ["text"] (defScope s_is_name) := ⟨rfl, rfl, rfl, by decide +kernel, rfl, by decide +kernel, by decide +kernel⟩
theorem ok_is_name {f : Addr} {fd : FuncData} (T : TopF K w mg aF aS es n t1 t2 t3 t4 t5 t6) (F : Fun K "is_name" "is_name" s_is_name f fd) : FnOk P w K mg base CX0 1 f fd ["text"] (spFlag isNameP) := by
  have sc := sc_is_name
  refine F.ok sc (fun vs H Q E h => ?_) (fun cdv A outer s H vs Q E hr h => ?_)
  · obtain ⟨z, rfl, _⟩ := h
    rfl
  obtain ⟨z, rfl, hz, q⟩ := h
  refine ⟨_, (pss_cons (ps_if (PW.pt (pw_or (pt_not (pt_chain op_le op_le pe_int (pe_callB call_len_str (by rfl) T.n_len PySem.boot_len (pa_cons (pv 0) pa_nil)) (pe_glob rfl T.g_LONGEST_NAME T.r_LONGEST_NAME))) (pw_or1 (pt_cmpR op_in_seq (pv 0) (pe_glob (v := .ref aS) rfl T.g_SPECIAL_NAMES rfl) (by rfl))))) (pss_one (ps_ret pe_bl)) pss_nil)
    (pss_cons (ps_if (pt_not (pt_val (pe_callB (cr_all rfl) (by rfl) T.n_all (by decide +kernel) (pa_cons (pe_lc (own := [("sign", 1)]) rfl sc.nd (pi_str (pv 0)) (blkOk_by (own := [("sign", 1)]) (N := ["text", "sign", "first"]) (sc := defScope s_is_name) (by decide +kernel)) (fun _ _ _ _ _ => (pg_name (i := 1) sc.nd rfl (.inl rfl))) (fun _ _ _ _ _ => pts_nil) (fun _ _ _ _ _ => (pe_cmpR op_in_sign (pv 1) (pe_glob rfl T.g_NAME_SIGNS T.r_NAME_SIGNS) (by rfl)))) pa_nil)))) (pss_one (ps_ret pe_bl)) pss_nil)
    (pss_cons (ps_set (i := 2) sc.nd rfl (Or.inl rfl) (pe_ifExp (pt_cmpR op_eq (pe_ix ix_str (pv 0) pe_int (fun _ _ => rfl)) pe_str (nomark _)) (pe_slice sl_str (pv 0) (po_some pe_int) (po_some pe_int)) (pe_ix ix_str (pv 0) pe_int (fun _ _ => rfl))))
    (pss_one (ps_ret (pe_or (pe_cmpR op_notin_str (pv 2) (pe_glob rfl T.g_FIGURES T.r_FIGURES) (by rfl)) (pe_one (pe_cmpR op_eq (pv 2) pe_str (nomark _))))))))), ?_⟩
  refine ⟨_, rfl, z, rfl, small2 hz, _, _, rfl, rfl, _, rfl, ?_⟩
  have hl := cod_len z
  have no : ∀ H', Same H H' → (¬ (1 ≤ (cod z).length ∧ (cod z).length ≤ 20) ∨ (cod z = dotsC ∨ cod z = [95])) → Q (.bl false) H' := fun H' s' h => by
    have q' := q H' s'
    unfold isNameP at q'
    rw [if_pos h] at q'
    exact q'
  refine ite2 (fun c => ?_) (fun c => ?_)
  · have c1 := of_decide_eq_true c
    refine ⟨_, _, rfl, rfl, _, rfl, ?_⟩
    by_cases c2 : (z.length : Int) ≤ 20
    · rw [decide_eq_true c2]
      refine iteF ⟨_, rfl, aS, _, rfl, .inr (T.special _), rfl, rfl, _, rfl, ?_⟩
      rw [in_special]
      by_cases c3 : cod z = dotsC ∨ cod z = [95]
      · rw [decide_eq_true c3]
        exact iteT (no H (Same.refl H) (.inr c3))
      · rw [decide_eq_false c3]
        have hh : ¬ (¬ (1 ≤ (cod z).length ∧ (cod z).length ≤ 20) ∨ (cod z = dotsC ∨ cod z = [95])) := by
          rintro (h | h)
          · exact h ⟨by omega, by omega⟩
          · exact c3 h
        refine iteF (all_read rfl (Nat.lt_succ_of_lt (Nat.lt_succ_self 1)) hz fun H1 s1 => ⟨_, rfl, ?_⟩)
        have q1 := q H1 s1
        unfold isNameP at q1
        rw [if_neg hh] at q1
        have ea : ((cod z).all fun c => decide (c ∈ cod nameT)) = (cod z).all isNm := rfl
        rw [ea]
        cases hall : (cod z).all isNm with
        | false =>
          rw [hall, if_pos rfl] at q1
          exact iteT q1
        | true =>
          rw [hall, if_neg Bool.noConfusion] at q1
          obtain ⟨d, hd⟩ := some_at (cs := cod z) (k := 0) (by omega)
          refine iteF ⟨_, rfl, z, 0, d, rfl, rfl, small2 hz, at_one hd, rfl, _, rfl, ?_⟩
          rw [dec_str, show cod (PySem.Str.ofString "-") = [45] by decide +kernel]
          refine if_join (fun v => ∃ fz : PySem.Str, v = .str fz ∧ cod fz = (firstOf (cod z)).toList) (fun c Q' k => ?_) (fun c Q' k => ?_) ?_
          · have hd45 : d = 45 := List.head_eq_of_cons_eq (of_decide_eq_true c)
            refine ⟨_, rfl, _, rfl, _, rfl, z, rfl, small2 hz, k _ ⟨_, rfl, ?_⟩⟩
            rw [show (2 : Int) = ((2 : Nat) : Int) from rfl, show (1 : Int) = ((1 : Nat) : Int) from rfl, cod_cut]
            unfold firstOf slice
            rw [hd, hd45, if_pos rfl]
            exact one_cut (by omega)
          · have hd45 : d ≠ 45 := fun q => of_decide_eq_false c (by rw [q])
            refine ⟨_, rfl, z, 0, d, rfl, rfl, small2 hz, at_one hd, k _ ⟨_, rfl, ?_⟩⟩
            unfold firstOf
            rw [hd, if_neg (fun q => hd45 (Option.some.inj q))]
            rfl
          rintro v ⟨fz, rfl, ef⟩
          refine ⟨_, rfl, fz, figsT, rfl, rfl, _, rfl, ?_⟩
          cases hfo : firstOf (cod z) with
          | none =>
            rw [hfo] at q1 ef
            have q2 : Q (.bl true) H1 := q1
            have e0 : decide (cod fz = cod (PySem.Str.ofString "")) = true := decide_eq_true ef
            cases (!(!(Builtin.Str.occurrences figsT fz 0 figsT.length 1).isEmpty)) with
            | true => exact iteT q2
            | false =>
              refine iteF ⟨_, rfl, rfl, ?_⟩
              rw [dec_str, e0]
              exact q2
          | some c =>
            rw [hfo] at q1 ef
            have efz : fz = ⟨#[c]⟩ := str_ext ef
            subst efz
            rw [StrLaws.found_one]
            have e1 : (!decide (c ∈ figsT.cps.toList)) = (!isFig c) := rfl
            rw [e1]
            have q2 : Q (.bl (!isFig c)) H1 := q1
            cases hc : isFig c with
            | false =>
              rw [hc] at q2
              exact iteT q2
            | true =>
              rw [hc] at q2
              refine iteF ⟨_, rfl, rfl, ?_⟩
              rw [dec_str, decide_eq_false (by rw [ef]; exact fun q => nomatch q)]
              exact q2
    · rw [decide_eq_false c2]
      exact iteT (iteT (no H (Same.refl H) (.inl fun h => c2 (by omega))))
  · have c1 := of_decide_eq_false (Bool.eq_false_iff.mpr c)
    exact ⟨_, rfl, iteT (iteT (no H (Same.refl H) (.inl fun h => c1 (by omega))))⟩

/-! ### sort_of -/
theorem sc_sort_of : FnScope ["word"] ["word"] (defScope s_sort_of) := ⟨rfl, rfl, rfl, by decide +kernel, rfl, by decide +kernel, by decide +kernel⟩
theorem ok_sort_of {f : Addr} {fd : FuncData} (T : TopF K w mg aF aS es n t1 t2 t3 t4 t5 t6) (F : Fun K "sort_of" "sort_of" s_sort_of f fd) (C_is_number_word : Cal P w K mg base "is_number_word" 2 ["word"] (spFlag isNumP)) (C_is_name : Cal P w K mg base "is_name" 1 ["text"] (spFlag isNameP)) : FnOk P w K mg base CX0 3 f fd ["word"] (spSort sortP) := by
  have sc := sc_sort_of
  refine F.ok sc (fun vs H Q E h => ?_) (fun cdv A outer s H vs Q E hr h => ?_)
  · obtain ⟨z, rfl, _⟩ := h
    rfl
  obtain ⟨z, rfl, hz, q⟩ := h
  refine ⟨_, (pss_cons (ps_if (pt_val (pe_cal C_is_number_word (hr.mono (by decide)) (by rfl) pass0 (pa_cons (pv 0) pa_nil))) (pss_one (ps_ret pe_str)) pss_nil)
    (pss_cons (ps_if (pt_cmpR (op_in_kd T.flags) (pv 0) (pe_glob (v := .ref aF) rfl T.g_FLAGS rfl) (by rfl)) (pss_one (ps_ret pe_str)) pss_nil)
    (pss_cons (ps_if (pt_cmpR op_eq (pv 0) pe_str (nomark _)) (pss_one (ps_ret pe_str)) pss_nil)
    (pss_cons (ps_if (pt_cmpR op_eq (pv 0) pe_str (nomark _)) (pss_one (ps_ret pe_str)) pss_nil)
    (pss_one (ps_ret (pe_ifExp (pt_val (pe_cal C_is_name (hr.mono (by decide)) (by rfl) pass0 (pa_cons (pv 0) pa_nil))) pe_str pe_str))))))), ?_⟩
  refine ⟨_, rfl, z, rfl, hz, fun H1 s1 => ⟨_, rfl, ?_⟩⟩
  have q1 := q H1 s1
  have q3 := fun H' s' => q H' s'
  unfold sortP at q1 q3
  cases hn : isNumP (cod z) with
  | true =>
    rw [hn, if_pos rfl] at q1
    exact iteT q1
  | false =>
    rw [hn, if_neg Bool.noConfusion] at q1 q3
    refine iteF ⟨_, rfl, z, _, rfl, rfl, T.flag z, _, rfl, ?_⟩
    by_cases hf : cod z = flagT ∨ cod z = flagF
    · rw [if_pos hf] at q1
      have e : Option.isSome (if cod z = flagT then some (Value.bool true) else if cod z = flagF then some (Value.bool false) else none) = true := by
        by_cases h1 : cod z = flagT
        · rw [if_pos h1]; rfl
        · rw [if_neg h1, if_pos (hf.resolve_left h1)]; rfl
      rw [e]
      exact iteT q1
    · rw [if_neg hf] at q1 q3
      have e : Option.isSome (if cod z = flagT then some (Value.bool true) else if cod z = flagF then some (Value.bool false) else none) = false := by
        rw [if_neg fun h => hf (.inl h), if_neg fun h => hf (.inr h)]; rfl
      rw [e]
      refine iteF ⟨_, rfl, rfl, _, rfl, ?_⟩
      rw [dec_str, show cod (PySem.Str.ofString "...") = dotsC by decide +kernel]
      refine ite2 (fun c => ?_) (fun c => ?_)
      · rw [if_pos (of_decide_eq_true c)] at q1
        exact q1
      · have c' := of_decide_eq_false (Bool.eq_false_iff.mpr c)
        rw [if_neg c'] at q1 q3
        refine ⟨_, rfl, rfl, _, rfl, ?_⟩
        rw [dec_str, show cod (PySem.Str.ofString "_") = [95] by decide +kernel]
        refine ite2 (fun c => ?_) (fun c => ?_)
        · rw [if_pos (of_decide_eq_true c)] at q1
          exact q1
        · have c' := of_decide_eq_false (Bool.eq_false_iff.mpr c)
          rw [if_neg c'] at q3
          refine ⟨_, rfl, z, rfl, hz, fun H2 s2 => ⟨_, rfl, ?_⟩⟩
          have q2 := q3 H2 (s1.trans s2)
          refine ite2 (fun c => ?_) (fun c => ?_)
          · rw [if_pos c] at q2
            exact q2
          · rw [if_neg c] at q2
            exact q2

/-! ### end_of_line -/
theorem find3_at (z : PySem.Str) (c k : Nat) (hk : k ≤ z.length) :
    (∃ j : Nat, Txt.find3 z ⟨#[c]⟩ (k : Int) = (j : Int) ∧ k ≤ j ∧ j < z.length ∧ (cod z)[j]? = some c ∧ ∀ i, k ≤ i → i < j → (cod z)[i]? ≠ some c) ∨
    (Txt.find3 z ⟨#[c]⟩ (k : Int) = -1 ∧ ∀ i, k ≤ i → i < z.length → (cod z)[i]? ≠ some c) := by
  have e : fromIndex z.length (k : Int) = k := by
    unfold fromIndex
    rw [if_neg (by omega)]
    omega
  unfold Txt.find3
  rw [e]
  rcases occ_first z c k z.length (Nat.le_refl _) with ⟨j, e, h⟩ | ⟨e, h⟩
  · rw [e]
    exact .inl ⟨j, rfl, h⟩
  · rw [e]
    exact .inr ⟨rfl, h⟩
theorem findIn_at (z : PySem.Str) (c k m : Nat) (hm : m ≤ z.length) :
    (∃ j : Nat, Txt.findIn z ⟨#[c]⟩ (k : Int) (m : Int) = (j : Int) ∧ k ≤ j ∧ j < m ∧ (cod z)[j]? = some c ∧ ∀ i, k ≤ i → i < j → (cod z)[i]? ≠ some c) ∨
    (Txt.findIn z ⟨#[c]⟩ (k : Int) (m : Int) = -1 ∧ ∀ i, k ≤ i → i < m → (cod z)[i]? ≠ some c) := by
  have e : fromIndex z.length (k : Int) = k := by
    unfold fromIndex
    rw [if_neg (by omega)]
    omega
  have e2 : toIndexW z.length (m : Int) = m := by
    unfold toIndexW
    rw [if_neg (by omega)]
    omega
  unfold Txt.findIn
  rw [e, e2]
  rcases occ_first z c k m hm with ⟨j, e, h⟩ | ⟨e, h⟩
  · rw [e]
    exact .inl ⟨j, rfl, h⟩
  · rw [e]
    exact .inr ⟨rfl, h⟩

def spEol : Sp := fun vs H Q _ => ∃ (z : PySem.Str) (k : Nat), vs = [.str z, .int k] ∧ z.length ≤ 2000 ∧ k ≤ z.length ∧ Q (.int (stop isNL (cod z) k : Nat)) H
theorem sc_end_of_line : FnScope ["text", "start", "end"] ["text", "start"] (defScope s_end_of_line) := ⟨rfl, rfl, rfl, by decide +kernel, rfl, by decide +kernel, by decide +kernel⟩
theorem ok_end_of_line {f : Addr} {fd : FuncData} (T : TopF K w mg aF aS es n t1 t2 t3 t4 t5 t6) (F : Fun K "end_of_line" "end_of_line" s_end_of_line f fd) : FnOk P w K mg base CX0 1 f fd ["text", "start"] spEol := by
  have sc := sc_end_of_line
  refine F.ok sc (fun vs H Q E h => ?_) (fun cdv A outer s H vs Q E hr h => ?_)
  · obtain ⟨z, k, rfl, _⟩ := h
    rfl
  obtain ⟨z, k, rfl, hz, hk, q⟩ := h
  refine ⟨_, (pss_cons (ps_set (i := 2) sc.nd rfl (Or.inl rfl) (pe_bm PySem.F.plainAttrs_str PySem.F.slot_str_find PySem.F.type_str_find mt_find3 (pv 0) (pa_cons pe_str (pa_cons (pv 1) pa_nil))))
    (pss_one (ps_ret (pe_ifExp (pt_cmpR op_lt (pv 2) pe_int (nomark _)) (pe_callB call_len_str (by rfl) T.n_len PySem.boot_len (pa_cons (pv 0) pa_nil)) (pv 2))))), ?_⟩
  refine ⟨_, rfl, rfl, _, rfl, _, _, _, rfl, rfl, ?_⟩
  have hl := cod_len z
  rcases find3_at z 10 k hk with ⟨j, e, h1, h2, h3, h4⟩ | ⟨e, h⟩
  · rw [show PySem.Str.ofString "\n" = ⟨#[10]⟩ by decide +kernel, e]
    refine ⟨_, rfl, _, _, rfl, rfl, _, rfl, ?_⟩
    rw [decide_eq_false (by omega)]
    refine iteF ⟨_, rfl, ?_⟩
    rw [stop_is (p := isNL) h1 (Nat.le_of_lt (at_lt h3)) (fun _ => ⟨10, h3, by decide⟩) fun i c g1 g2 g3 => decide_eq_false fun q => h4 i g1 g2 (by rw [g3, q])] at q
    exact q
  · rw [show PySem.Str.ofString "\n" = ⟨#[10]⟩ by decide +kernel, e]
    refine ⟨_, rfl, _, _, rfl, rfl, _, rfl, ?_⟩
    rw [decide_eq_true (by decide)]
    refine iteT ⟨_, rfl, z, rfl, small2 hz, ?_⟩
    rw [stop_is (p := isNL) (cs := cod z) (e := z.length) hk (by omega) (fun q => by omega) fun i c g1 g2 g3 => decide_eq_false fun q => h i g1 g2 (by rw [g3, q])] at q
    exact q

/-! ### string_token, word_token -/
def tokV (t : Tk) : List V := [.str t.1, .int (t.2.1 : Int), .int (t.2.2 : Int)]
def spTok (f : List Nat → Nat → Tk) (ok : Nat → Prop) : Sp := fun vs H Q _ => ∃ (z : PySem.Str) (k c : Nat), vs = [.str z, .int k] ∧ z.length ≤ 2000 ∧ (cod z)[k]? = some c ∧ ok c ∧
  ∀ (H' : Hp) (p : Addr), Same H H' → H p = none → H' p = some (.tup (tokV (f (cod z) k))) → Q (.ref p) H'
theorem sc_string_token : FnScope ["text", "start", "line_end", "end"] ["text", "start"] (defScope s_string_token) := ⟨rfl, rfl, rfl, by decide +kernel, rfl, by decide +kernel, by decide +kernel⟩
theorem ok_string_token {f : Addr} {fd : FuncData} (T : TopF K w mg aF aS es n t1 t2 t3 t4 t5 t6) (F : Fun K "string_token" "string_token" s_string_token f fd) (C_end_of_line : Cal P w K mg base "end_of_line" 1 ["text", "start"] spEol) : FnOk P w K mg base CX0 2 f fd ["text", "start"] (spTok strTok fun c => c = 34) := by
  have sc := sc_string_token
  refine F.ok sc (fun vs H Q E h => ?_) (fun cdv A outer s H vs Q E hr h => ?_)
  · obtain ⟨z, k, c, rfl, _⟩ := h
    rfl
  obtain ⟨z, k, c, rfl, hz, hc, rfl, q⟩ := h
  have hl := cod_len z
  have hk := at_lt hc
  refine ⟨_, (pss_cons (ps_set (i := 2) sc.nd rfl (Or.inl rfl) (pe_cal C_end_of_line (hr.mono (by decide)) (by rfl) pass0 (pa_cons (pv 0) (pa_cons (pv 1) pa_nil))))
    (pss_cons (ps_set (i := 3) sc.nd rfl (Or.inl rfl) (pe_bm PySem.F.plainAttrs_str PySem.F.slot_str_find PySem.F.type_str_find mt_find4 (pv 0) (pa_cons pe_str (pa_cons (pe_op op_add (pv 1) pe_int) (pa_cons (pv 2) pa_nil)))))
    (pss_cons (ps_if (pt_cmpR op_lt (pv 3) pe_int (nomark _)) (pss_one (ps_ret (pe_tup (pa_cons pe_str (pa_cons (pv 1) (pa_cons (pv 2) pa_nil)))))) pss_nil)
    (pss_one (ps_ret (pe_tup (pa_cons (pe_ifExp (pt_cmpR op_le (pe_op op_sub (pe_op op_sub (pv 3) (pv 1)) pe_int) (pe_glob rfl T.g_LONGEST_STRING T.r_LONGEST_STRING) (nomark _)) pe_str pe_str) (pa_cons (pv 1) (pa_cons (pe_op op_add (pv 3) pe_int) pa_nil))))))))), ?_⟩
  refine ⟨_, rfl, _, rfl, z, k, rfl, hz, by omega, ?_⟩
  have hs : stop isNL (cod z) k ≤ z.length := by rw [← hl]; exact stop_le (by omega)
  refine ⟨_, rfl, rfl, _, rfl, _, _, rfl, rfl, _, rfl, _, _, _, _, rfl, rfl, ?_⟩
  rw [show PySem.Str.ofString "\"" = ⟨#[34]⟩ by decide +kernel, show ((k : Int) + 1) = ((k + 1 : Nat) : Int) by omega]
  rcases findIn_at z 34 (k + 1) _ hs with ⟨j, e, h1, h2, h3, h4⟩ | ⟨e, h⟩
  · rw [e]
    have eq := quote_found hc h1 h2 h3 h4
    have et : strTok (cod z) k = ((if j + 1 - k < 103 then sString else sWrong), k, j + 1) := by
      unfold strTok
      rw [eq, if_pos h3]
    refine ⟨_, rfl, _, _, rfl, rfl, _, rfl, ?_⟩
    rw [decide_eq_false (by omega)]
    refine iteF ⟨_, rfl, _, rfl, _, _, rfl, rfl, _, _, rfl, rfl, _, _, rfl, rfl, _, rfl, ?_⟩
    have fin : ∀ x : PySem.Str, x = (if j + 1 - k < 103 then sString else sWrong) → ∀ p, H p = none → Q (.ref p) (upd H p (.tup [.str x, .int k, .int ((j : Int) + 1)])) := fun x hx p hp => by
      refine q _ p (same_upd hp) hp ?_
      rw [upd_same, et, hx]
      rfl
    refine ite2 (fun c => ?_) (fun c => ?_)
    · have c' := of_decide_eq_true c
      exact ⟨_, rfl, _, rfl, _, _, rfl, rfl, (by show 3 ≤ sizeLine; rw [sizeLine_eq]; decide), fun p hp => fin _ (if_pos (by omega)).symm p hp⟩
    · have c' := of_decide_eq_false (Bool.eq_false_iff.mpr c)
      exact ⟨_, rfl, _, rfl, _, _, rfl, rfl, (by show 3 ≤ sizeLine; rw [sizeLine_eq]; decide), fun p hp => fin _ (if_neg (by omega)).symm p hp⟩
  · rw [e]
    obtain ⟨e1, e2⟩ := quote_none hc h
    have et : strTok (cod z) k = (sWrong, k, stop isNL (cod z) k) := by
      unfold strTok
      rw [if_neg e2, e1]
    refine ⟨_, rfl, _, _, rfl, rfl, _, rfl, ?_⟩
    rw [decide_eq_true (by decide)]
    refine iteT ⟨_, rfl, _, rfl, (by show 3 ≤ sizeLine; rw [sizeLine_eq]; decide), fun p hp => ?_⟩
    refine q _ p (same_upd hp) hp ?_
    rw [upd_same, et]
    rfl

theorem sc_word_token : FnScope ["text", "start", "end"] ["text", "start"] (defScope s_word_token) := ⟨rfl, rfl, rfl, by decide +kernel, rfl, by decide +kernel, by decide +kernel⟩
theorem ok_word_token {f : Addr} {fd : FuncData} (T : TopF K w mg aF aS es n t1 t2 t3 t4 t5 t6) (F : Fun K "word_token" "word_token" s_word_token f fd) (C_sort_of : Cal P w K mg base "sort_of" 3 ["word"] (spSort sortP)) : FnOk P w K mg base CX0 4 f fd ["text", "start"] (spTok wordTok fun c => isEnd c = false) := by
  have sc := sc_word_token
  refine F.ok sc (fun vs H Q E h => ?_) (fun cdv A outer s H vs Q E hr h => ?_)
  · obtain ⟨z, k, c, rfl, _⟩ := h
    rfl
  obtain ⟨z, k, c, rfl, hz, hc, hn, q⟩ := h
  have hl := cod_len z
  have hk := at_lt hc
  refine ⟨_, (pss_cons (ps_set (i := 2) sc.nd rfl (Or.inl rfl) (pv 1))
    (pss_cons (ps_while PassesOwn.never (PW.pt (pw_and (pt_cmpR op_lt (pv 2) (pe_callB call_len_str (by rfl) T.n_len PySem.boot_len (pa_cons (pv 0) pa_nil)) (nomark _)) (pw_and1 (pt_cmpR op_notIn_sign (pe_ix ix_str (pv 0) (pv 2) (fun _ _ => rfl)) (pe_glob rfl T.g_ENDS_OF_WORDS T.r_ENDS_OF_WORDS) (by rfl))))) (pss_one (ps_set (i := 2) sc.nd rfl (Or.inl rfl) (pe_op op_add (pv 2) pe_int))))
    (pss_cons (ps_if (PW.pt (pw_and (pt_cmpR op_eq (pe_slice sl_str (pv 0) (po_some (pv 1)) (po_some (pv 2))) pe_str (nomark _)) (pw_and1 (pt_cmpR op_eq (pe_slice sl_str (pv 0) (po_some (pv 2)) (po_some (pe_op op_add (pv 2) pe_int))) pe_str (nomark _))))) (pss_one (ps_ret (pe_tup (pa_cons pe_str (pa_cons (pv 1) (pa_cons (pe_op op_add (pv 2) pe_int) pa_nil)))))) pss_nil)
    (pss_one (ps_ret (pe_tup (pa_cons (pe_cal C_sort_of (hr.mono (by decide)) (by rfl) pass0 (pa_cons (pe_slice sl_str (pv 0) (po_some (pv 1)) (po_some (pv 2))) pa_nil)) (pa_cons (pv 1) (pa_cons (pv 2) pa_nil))))))))), ?_⟩
  have hs : stop isEnd (cod z) k ≤ z.length := by rw [← hl]; exact stop_le (by omega)
  refine ⟨_, rfl, while_ends (fun r σ H' => ∃ m : Nat, σ = [some (.str z), some (.int k), some (.int m)] ∧ H' = H ∧ m ≤ z.length ∧ r = z.length - m ∧ stop isEnd (cod z) m = stop isEnd (cod z) k)
    (fun σ H' => σ = [some (.str z), some (.int k), some (.int (stop isEnd (cod z) k : Nat))] ∧ H' = H) ⟨_, k, rfl, rfl, by omega, rfl, rfl⟩ ?_ ?_⟩
  · rintro r σ H' ⟨m, rfl, rfl, hm, rfl, he⟩ B hB
    refine ⟨_, rfl, _, rfl, z, rfl, small2 hz, _, _, rfl, rfl, _, rfl, ?_⟩
    refine ite2 (fun c => ?_) (fun c => ?_)
    · have c' := of_decide_eq_true c
      obtain ⟨d, hd⟩ := some_at (cs := cod z) (k := m) (by omega)
      refine ⟨_, rfl, _, rfl, z, m, d, rfl, rfl, small2 hz, at_one hd, d, endsT, rfl, rfl, _, rfl, ?_⟩
      have e : decide (d ∈ endsT.cps.toList) = isEnd d := rfl
      rw [e]
      cases hed : isEnd d with
      | true =>
        rw [stop_here hd hed] at he
        exact iteF (hB _ _ ⟨by rw [he], rfl⟩)
      | false =>
        rw [stop_next hd hed] at he
        refine iteT ⟨Less _ _, fun _ _ h => h, _, rfl, _, _, rfl, rfl, z.length - (m + 1), by omega, m + 1, ?_, rfl, by omega, rfl, he⟩
        rfl
    · have c' := of_decide_eq_false (Bool.eq_false_iff.mpr c)
      rw [stop_end (by omega)] at he
      exact hB _ _ ⟨by rw [he], rfl⟩
  rintro σ H' ⟨rfl, rfl⟩
  generalize hm : stop isEnd (cod z) k = m at hs
  have hkm : k ≤ m := by rw [← hm]; exact le_stop
  refine ⟨_, rfl, _, rfl, _, rfl, _, rfl, _, rfl, z, rfl, small2 hz, rfl, _, rfl, ?_⟩
  rw [dec_str, cod_cut_in z (by omega) hs, show cod (PySem.Str.ofString "#") = [35] by decide +kernel]
  have et : wordTok (cod z) k = if slice (cod z) k m = [35] ∧ (cod z)[m]? = some 39 then (sSign, k, m + 1) else (sortP (slice (cod z) k m), k, m) := by
    unfold wordTok
    rw [hm]
  have other : ¬ (slice (cod z) k m = [35] ∧ (cod z)[m]? = some 39) → ∀ H1 (x : PySem.Str) p, Same H' H1 → H1 p = none → x = sortP (slice (cod z) k m) → Q (.ref p) (upd H1 p (.tup [.str x, .int k, .int m])) := fun hne H1 x p s1 hp hx => by
    rw [if_neg hne] at et
    refine q _ p (s1.trans (same_upd hp)) (s1.free hp) ?_
    rw [upd_same, et, hx]
    rfl
  refine ite2 (fun c => ?_) (fun c => ?_)
  · have c1 := of_decide_eq_true c
    refine ⟨_, rfl, _, rfl, _, rfl, _, rfl, _, _, rfl, rfl, _, rfl, z, rfl, small2 hz, rfl, _, rfl, ?_⟩
    rw [dec_str, show ((m : Int) + 1) = ((m + 1 : Nat) : Int) by omega, cod_cut, show cod (PySem.Str.ofString "'") = [39] by decide +kernel]
    have e1 : (slice (cod z) (min m z.length) (min (m + 1) z.length) = [39]) = ((cod z)[m]? = some 39) := by
      unfold slice
      rw [← hl]
      exact propext (one_at (by omega))
    refine ite2 (fun c => ?_) (fun c => ?_)
    · have c2 := of_decide_eq_true c
      rw [e1] at c2
      refine ⟨_, rfl, _, rfl, _, _, rfl, rfl, (by show 3 ≤ sizeLine; rw [sizeLine_eq]; decide), fun p hp => ?_⟩
      refine q _ p (same_upd hp) hp ?_
      rw [upd_same, et, if_pos ⟨c1, c2⟩]
      rfl
    · have c2 := of_decide_eq_false (Bool.eq_false_iff.mpr c)
      rw [e1] at c2
      refine ⟨_, rfl, _, rfl, _, rfl, _, rfl, _, rfl, z, rfl, small2 hz, _, rfl, Nat.le_trans (cut_len ..) hz, fun H1 s1 => ?_⟩
      refine ⟨_, rfl, _, rfl, (by show 3 ≤ sizeLine; rw [sizeLine_eq]; decide), fun p hp => other (fun h => c2 h.2) H1 _ p s1 hp ?_⟩
      rw [cod_cut_in z (by omega) hs]
  · have c1 := of_decide_eq_false (Bool.eq_false_iff.mpr c)
    refine ⟨_, rfl, _, rfl, _, rfl, _, rfl, _, rfl, z, rfl, small2 hz, _, rfl, Nat.le_trans (cut_len ..) hz, fun H1 s1 => ?_⟩
    refine ⟨_, rfl, _, rfl, (by show 3 ≤ sizeLine; rw [sizeLine_eq]; decide), fun p hp => other (fun h => c1 h.1) H1 _ p s1 hp ?_⟩
    rw [cod_cut_in z (by omega) hs]

/-! ### tokens -/
/-- the tokens' tuples -/
inductive Toks (H : Hp) : List Addr → List Tk → Prop where
  | nil : Toks H [] []
  | snoc {ps : List Addr} {ts : List Tk} {p : Addr} {t : Tk} : Toks H ps ts → H p = some (.tup (tokV t)) → Toks H (ps ++ [p]) (ts ++ [t])
theorem Toks.mono {H H' : Hp} (s : ∀ b xs, H b = some (.tup xs) → H' b = some (.tup xs)) : ∀ {ps : List Addr} {ts : List Tk}, Toks H ps ts → Toks H' ps ts := by
  intro ps ts h
  induction h with
  | nil => exact .nil
  | snoc _ e ih => exact .snoc ih (s _ _ e)
theorem Toks.len {H : Hp} {ps : List Addr} {ts : List Tk} (h : Toks H ps ts) : ps.length = ts.length := by
  induction h with
  | nil => rfl
  | snoc _ _ ih => simp [ih]
theorem in_blank (d : Nat) : d ∈ (PySem.Str.ofString " \n").cps.toList ↔ isBlank d := by
  rw [show (PySem.Str.ofString " \n").cps.toList = [32, 10] by decide +kernel]
  unfold isBlank
  simp
theorem in_sign (d : Nat) : d ∈ (PySem.Str.ofString "()'").cps.toList ↔ isSign d := by
  rw [show (PySem.Str.ofString "()'").cps.toList = [40, 41, 39] by decide +kernel]
  unfold isSign
  simp
theorem dec_one (d : Nat) (z : PySem.Str) : decide (V.str ⟨#[d]⟩ = V.str z) = decide ([d] = cod z) := dec_str _ _
theorem dec_sing (d c : Nat) : decide ([d] = [c]) = decide (d = c) := by
  by_cases h : d = c <;> simp [h]
def spTokens : Sp := fun vs H Q _ => ∃ z : PySem.Str, vs = [.str z] ∧ z.length ≤ 2000 ∧
  ∀ (H' : Hp) (l : Addr) (ps : List Addr), Same H H' → H l = none → H' l = some (.lst (ps.map V.ref)) → Toks H' ps (toksFrom (cod z) 0) → Q (.ref l) H'
theorem sc_tokens : FnScope ["text", "found", "at", "sign", "token"] ["text"] (defScope s_tokens) := ⟨rfl, rfl, rfl, by decide +kernel, rfl, by decide +kernel, by decide +kernel⟩
theorem ok_tokens {f : Addr} {fd : FuncData} (T : TopF K w mg aF aS es n t1 t2 t3 t4 t5 t6) (F : Fun K "tokens" "tokens" s_tokens f fd)
    (C_end_of_line : Cal P w K mg base "end_of_line" 1 ["text", "start"] spEol) (C_string_token : Cal P w K mg base "string_token" 2 ["text", "start"] (spTok strTok fun c => c = 34)) (C_word_token : Cal P w K mg base "word_token" 4 ["text", "start"] (spTok wordTok fun c => isEnd c = false)) :
    FnOk P w K mg base CX0 5 f fd ["text"] spTokens := by
  have sc := sc_tokens
  refine F.ok sc (fun vs H Q E h => ?_) (fun cdv A outer s H vs Q E hr h => ?_)
  · obtain ⟨z, rfl, _⟩ := h
    rfl
  obtain ⟨z, rfl, hz, q⟩ := h
  have hl := cod_len z
  refine ⟨_, (pss_cons (ps_set (i := 1) sc.nd rfl (Or.inl rfl) (pe_lst pa_nil))
    (pss_cons (ps_set (i := 2) sc.nd rfl (Or.inl rfl) pe_int)
    (pss_cons (ps_while PassesOwn.never (pt_cmpR op_lt (pv 2) (pe_callB call_len_str (by rfl) T.n_len PySem.boot_len (pa_cons (pv 0) pa_nil)) (nomark _)) (pss_cons (ps_set (i := 3) sc.nd rfl (Or.inl rfl) (pe_ix ix_str (pv 0) (pv 2) (fun _ _ => rfl)))
    (pss_one (ps_if (pt_cmpR op_in_sign (pv 3) pe_str (by rfl)) (pss_one (ps_set (i := 2) sc.nd rfl (Or.inl rfl) (pe_op op_add (pv 2) pe_int))) (pss_one (ps_if (pt_cmpR op_eq (pv 3) pe_str (nomark _)) (pss_one (ps_set (i := 2) sc.nd rfl (Or.inl rfl) (pe_cal C_end_of_line (hr.mono (by decide)) (by rfl) pass0 (pa_cons (pv 0) (pa_cons (pv 2) pa_nil))))) (pss_cons (ps_if (pt_cmpR op_in_sign (pv 3) pe_str (by rfl)) (pss_one (ps_set (i := 4) sc.nd rfl (Or.inl rfl) (pe_tup (pa_cons pe_str (pa_cons (pv 2) (pa_cons (pe_op op_add (pv 2) pe_int) pa_nil)))))) (pss_one (ps_if (pt_cmpR op_eq (pv 3) pe_str (nomark _)) (pss_one (ps_set (i := 4) sc.nd rfl (Or.inl rfl) (pe_cal C_string_token (hr.mono (by decide)) (by rfl) pass0 (pa_cons (pv 0) (pa_cons (pv 2) pa_nil))))) (pss_one (ps_set (i := 4) sc.nd rfl (Or.inl rfl) (pe_cal C_word_token (hr.mono (by decide)) (by rfl) pass0 (pa_cons (pv 0) (pa_cons (pv 2) pa_nil))))))))
    (pss_cons (ps_expr (pe_bm PySem.F.plainAttrs_list PySem.F.slot_list_append PySem.F.type_list_append mt_append (pv 1) (pa_cons (pv 4) pa_nil)))
    (pss_one (ps_set (i := 2) sc.nd rfl (Or.inl rfl) (pe_ix ix_tup (pv 4) pe_int (fun _ _ => rfl))))))))))))
    (pss_one (ps_ret (pv 1)))))), ?_⟩
  refine ⟨(by show 0 ≤ sizeLine; decide), fun l hnl => ?_⟩
  refine while_ends (fun r σ H' => ∃ (m : Nat) (ps : List Addr) (ts : List Tk) (v4 v5 : Option V), σ = [some (.str z), some (.ref l), some (.int m), v4, v5] ∧ Same H H' ∧ m ≤ z.length ∧ r = z.length - m ∧
      H' l = some (.lst (ps.map V.ref)) ∧ Toks H' ps ts ∧ ts ++ toksFrom (cod z) m = toksFrom (cod z) 0 ∧ ts.length ≤ m)
    (fun σ H' => ∃ (m : Option V) (ps : List Addr) (v4 v5 : Option V), σ = [some (.str z), some (.ref l), m, v4, v5] ∧ Same H H' ∧ H' l = some (.lst (ps.map V.ref)) ∧ Toks H' ps (toksFrom (cod z) 0))
    ⟨_, 0, [], [], none, none, rfl, same_upd hnl, Nat.zero_le _, rfl, upd_same, .nil, rfl, Nat.le_refl _⟩ ?_ ?_
  · rintro r σ H' ⟨m, ps, ts, v4, v5, rfl, s5, hm, rfl, hL, ht, he, hlen⟩ B hB
    refine ⟨_, rfl, _, rfl, z, rfl, small2 hz, _, _, rfl, rfl, _, rfl, ?_⟩
    refine ite2 (fun c => ?_) (fun c => ?_)
    · have c' := of_decide_eq_true c
      obtain ⟨d, hd⟩ := some_at (cs := cod z) (k := m) (by omega)
      have hmore := step_more hd
      rw [toks_more hd] at he
      refine ⟨Less _ _, fun _ _ h => h, ?_⟩
      refine ⟨_, rfl, _, rfl, z, m, d, rfl, rfl, small2 hz, at_one hd, ?_⟩
      refine ⟨_, rfl, d, _, rfl, rfl, _, rfl, ?_⟩
      rw [show decide (d ∈ (PySem.Str.ofString " \n").cps.toList) = decide (isBlank d) from decide_eq_decide.mpr (in_blank d)]
      unfold stepAt at hmore he
      refine ite2 (fun c1 => ?_) (fun c1 => ?_)
      · have hb := of_decide_eq_true c1
        rw [if_pos hb] at hmore he
        refine ⟨_, rfl, _, _, rfl, rfl, z.length - (m + 1), by omega, m + 1, ps, ts, _, _, rfl, s5, Nat.le_trans hmore.2 (Nat.le_of_eq hl), rfl, hL, ht, he, by omega⟩
      · have hb := of_decide_eq_false (Bool.eq_false_iff.mpr c1)
        rw [if_neg hb] at hmore he
        refine ⟨_, rfl, rfl, _, rfl, ?_⟩
        rw [dec_one, show cod (PySem.Str.ofString ";") = [59] by decide +kernel, dec_sing]
        refine ite2 (fun c2 => ?_) (fun c2 => ?_)
        · have h59 := of_decide_eq_true c2
          rw [if_pos h59] at hmore he
          have hs := stop_le (p := isNL) (cs := cod z) (k := m) (by omega)
          exact ⟨_, rfl, _, rfl, z, m, rfl, hz, by omega, z.length - stop isNL (cod z) m, by omega, _, ps, ts, _, _, rfl, s5, by omega, rfl, hL, ht, he, by omega⟩
        · have h59 := of_decide_eq_false (Bool.eq_false_iff.mpr c2)
          rw [if_neg h59] at hmore he
          have hm2 : m < (tokOf (cod z) m d).2.2 ∧ (tokOf (cod z) m d).2.2 ≤ (cod z).length := hmore
          refine seq_cut (fun σ' H1 => ∃ (p : Addr) (v4 : Option V), σ' = [some (.str z), some (.ref l), some (.int m), v4, some (.ref p)] ∧ Same H' H1 ∧ H1 p = some (.tup (tokV (tokOf (cod z) m d)))) (fun N hN => ?_) ?_
          · refine ⟨_, rfl, d, _, rfl, rfl, _, rfl, ?_⟩
            rw [show decide (d ∈ (PySem.Str.ofString "()'").cps.toList) = decide (isSign d) from decide_eq_decide.mpr (in_sign d)]
            unfold tokOf at hN
            refine ite2 (fun c3 => ?_) (fun c3 => ?_)
            · rw [if_pos (of_decide_eq_true c3)] at hN
              exact ⟨_, rfl, _, rfl, _, _, rfl, rfl, (by show 3 ≤ sizeLine; rw [sizeLine_eq]; decide), fun p hp => hN _ _ ⟨p, _, rfl, same_upd hp, upd_same⟩⟩
            · have hs := of_decide_eq_false (Bool.eq_false_iff.mpr c3)
              rw [if_neg hs] at hN
              refine ⟨_, rfl, rfl, _, rfl, ?_⟩
              rw [dec_one, show cod (PySem.Str.ofString "\"") = [34] by decide +kernel, dec_sing]
              refine ite2 (fun c4 => ?_) (fun c4 => ?_)
              · have h34 := of_decide_eq_true c4
                rw [if_pos h34] at hN
                exact ⟨_, rfl, _, rfl, z, m, d, rfl, hz, hd, h34, fun H1 p s1 hp e => hN _ _ ⟨p, _, rfl, s1, e⟩⟩
              · have h34 := of_decide_eq_false (Bool.eq_false_iff.mpr c4)
                rw [if_neg h34] at hN
                refine ⟨_, rfl, _, rfl, z, m, d, rfl, hz, hd, ?_, fun H1 p s1 hp e => hN _ _ ⟨p, _, rfl, s1, e⟩⟩
                cases e : isEnd d with
                | false => exact e
                | true => exact absurd ((end_iff d).mp e) (by rintro (x | x | x | x); exact hb x; exact h59 x; exact hs x; exact h34 x)
          · rintro σ' H1 ⟨p, v4, rfl, s1, hp⟩
            have hL1 := s1 _ _ hL
            refine ⟨_, rfl, .inl ⟨rfl, _, SqL.of hL1⟩, _, rfl, l, _, _, rfl, rfl, hL1, ?_, ?_⟩
            · rw [List.length_map, ht.len, sizeLine_eq]
              omega
            · have hpl : p ≠ l := ne_of hp hL1 (fun q => nomatch q)
              refine ⟨_, rfl, p, tokV (tokOf (cod z) m d), _, _, rfl, rfl, SqT.of (by rw [upd_ne hpl]; exact hp), rfl, ?_⟩
              refine ⟨z.length - (tokOf (cod z) m d).2.2, by omega, (tokOf (cod z) m d).2.2, ps ++ [p], ts ++ [tokOf (cod z) m d], _, _, rfl, ?_, by omega, rfl, ?_, ?_, ?_, ?_⟩
              · intro b o e
                rw [upd_ne (ne_of_none e hnl)]
                exact s1 _ _ (s5 _ _ e)
              · rw [upd_same, List.map_append]
                rfl
              · refine .snoc (ht.mono fun b xs e => ?_) (by rw [upd_ne hpl]; exact hp)
                rw [upd_ne (ne_of (s1 _ _ e) hL1 (fun q => nomatch q))]
                exact s1 _ _ e
              · rw [List.append_assoc]
                exact he
              · rw [List.length_append, List.length_singleton]
                omega
    · have c' := of_decide_eq_false (Bool.eq_false_iff.mpr c)
      rw [toks_end (by omega), List.append_nil] at he
      exact hB _ _ ⟨_, ps, v4, v5, rfl, s5, hL, by rw [← he]; exact ht⟩
  · rintro σ H' ⟨m, ps, v4, v5, rfl, s5, hL, ht⟩
    exact ⟨_, rfl, q H' l ps s5 hnl hL ht⟩
end
end K1
set_option Elab.async false
set_option linter.all false
set_option maxRecDepth 100000
set_option maxHeartbeats 4000000
namespace K1
open PySem L2
abbrev s__law_draws : Stmt := topS 18
abbrev s__law_take : Stmt := topS 19
abbrev s__law_same : Stmt := topS 20
abbrev s__law_sort : Stmt := topS 21
abbrev s__law_tokens : Stmt := topS 22
abbrev s__law_signs : Stmt := topS 23
abbrev s__law_word : Stmt := topS 24
abbrev s__law_text : Stmt := topS 25
abbrev s_law : Stmt := topS 26
section
variable {P : Program} {w : World} {K : PySem.W.Frag} {mg : PySem.Str → Option Value} {base : Heap} {aF aS : Addr} {es : Array DictEntry} {n : Nat} {t1 t2 t3 t4 t5 t6 : Tok}

/-! ### _law_draws -/
/-- a list of some ints, new -/
def spDraws (K : PySem.W.Frag) : Sp := fun vs H Q _ => ∃ (a : Addr) (ns : List Int), vs = [.ref a, .int 500] ∧ SqL K H a (ns.map V.int) ∧ ns.length ≤ 63 ∧
  ∀ (H' : Hp) (l : Addr) (ds : List Int), Same H H' → H l = none → H' l = some (.lst (ds.map V.int)) → Q (.ref l) H'
theorem sc__law_draws : FnScope ["script", "count", "cells", "found", "mixed", "k", "j", "cell", "again"] ["script", "count"] (defScope s__law_draws) := ⟨rfl, rfl, rfl, by decide +kernel, rfl, by decide +kernel, by decide +kernel⟩
theorem ok__law_draws {f : Addr} {fd : FuncData} (T : TopF K w mg aF aS es n t1 t2 t3 t4 t5 t6) (F : Fun K "_law_draws" "_law_draws" s__law_draws f fd) : FnOk P w K mg base CX0 1 f fd ["script", "count"] (spDraws K) := by
  have sc := sc__law_draws
  refine F.ok sc (fun vs H Q E h => ?_) (fun cdv A outer s H vs Q E hr h => ?_)
  · obtain ⟨a, ns, rfl, _⟩ := h
    rfl
  obtain ⟨a, ns, rfl, hS, h63, q⟩ := h
  refine ⟨_, (pss_cons (ps_set (i := 2) sc.nd rfl (Or.inl rfl) (pe_callTy call_list_of (by rfl) T.n_list (by decide +kernel) (pa_cons (pv 0) pa_nil)))
    (pss_cons (ps_if (pt_cmpR op_eq (pe_callB call_len_seq (by rfl) T.n_len PySem.boot_len (pa_cons (pv 2) pa_nil)) pe_int (nomark _)) (pss_one (ps_set (i := 2) sc.nd rfl (Or.inl rfl) (pe_lst (pa_cons pe_int pa_nil)))) pss_nil)
    (pss_cons (ps_set (i := 3) sc.nd rfl (Or.inl rfl) (pe_lst pa_nil))
    (pss_cons (ps_set (i := 4) sc.nd rfl (Or.inl rfl) pe_int)
    (pss_cons (ps_for PassesOwn.never rfl (pi_range1 (by rfl) T.n_range (pa_cons (pv 1) pa_nil)) (pg_name (i := 5) sc.nd rfl (.inl rfl)) (pss_cons (ps_set (i := 6) sc.nd rfl (Or.inl rfl) (pe_op op_modN (pv 5) (pe_callB call_len_seq (by rfl) T.n_len PySem.boot_len (pa_cons (pv 2) pa_nil))))
    (pss_cons (ps_set (i := 7) sc.nd rfl (Or.inl rfl) (pe_ix ix_list (pv 2) (pv 6) (fun _ _ => rfl)))
    (pss_cons (ps_set (i := 4) sc.nd rfl (Or.inl rfl) (pe_op op_mod (pe_callTy call_int1 (by rfl) T.n_int (by decide +kernel) (pa_cons (pe_op op_add (pe_op op_add (pe_op op_add (pe_op op_mul (pv 4) pe_int) (pe_op op_mul (pe_op op_mod (pe_callTy call_int1 (by rfl) T.n_int (by decide +kernel) (pa_cons (pv 7) pa_nil)) pe_int) pe_int)) (pe_op op_mul (pv 5) pe_int)) pe_int) pa_nil)) pe_int))
    (pss_cons (ps_set (i := 8) sc.nd rfl (Or.inl rfl) (pe_op op_mod (pe_callTy call_int1 (by rfl) T.n_int (by decide +kernel) (pa_cons (pe_op op_add (pe_op op_add (pe_op op_mul (pv 4) (pv 4)) (pe_op op_mul pe_int (pv 4))) (pv 5)) pa_nil)) pe_int))
    (pss_one (ps_if (pt_cmpR op_ge (pv 7) (pe_op op_pow pe_int pe_int) (nomark _)) (pss_cons (ps_expr (pe_bm PySem.F.plainAttrs_list PySem.F.slot_list_append PySem.F.type_list_append mt_append (pv 3) (pa_cons (pe_op op_mod (pe_callTy call_int1 (by rfl) T.n_int (by decide +kernel) (pa_cons (pv 7) pa_nil)) pe_int) pa_nil)))
    (pss_one (ps_asg (pe_op op_fdiv (pv 7) pe_int) (pg_sub (pv 2) (pv 6) set_list)))) (pss_one (ps_expr (pe_bm PySem.F.plainAttrs_list PySem.F.slot_list_append PySem.F.type_list_append mt_append (pv 3) (pa_cons (pe_op op_mod (pe_callTy call_int1 (by rfl) T.n_int (by decide +kernel) (pa_cons (pv 8) pa_nil)) pe_int) pa_nil)))))))))))
    (pss_cons (ps_expr (pe_bm0 PySem.F.plainAttrs_list PySem.F.slot_list_reverse PySem.F.type_list_reverse mt_reverse (pv 3)))
    (pss_one (ps_ret (pv 3))))))))), ?_⟩
  refine seq_cut (fun σ H1 => ∃ c0 : Addr, σ = [some (.ref a), some (.int 500), some (.ref c0), none, none, none, none, none, none] ∧ H1 = upd H c0 (.lst (ns.map V.int)) ∧ H c0 = none)
    (fun N hN => ⟨_, rfl, a, _, rfl, .inl hS, fun c0 hc0 => hN _ _ ⟨c0, rfl, rfl, hc0⟩⟩) ?_
  rintro σ H1 ⟨c0, rfl, rfl, hc0⟩
  refine seq_cut (fun σ H1 => ∃ (c : Addr) (ms : List Int), σ = [some (.ref a), some (.int 500), some (.ref c), none, none, none, none, none, none] ∧ Same H H1 ∧ H c = none ∧ H1 c = some (.lst (ms.map V.int)) ∧ 1 ≤ ms.length ∧ ms.length ≤ 63) (fun N hN => ?_) ?_
  · refine ⟨_, rfl, c0, _, rfl, .inl (SqL.of upd_same), rfl, _, rfl, ?_⟩
    rw [List.length_map]
    refine ite2 (fun c => ?_) (fun c => ?_)
    · refine ⟨(by show 1 ≤ sizeLine; decide), fun c1 hc1 => hN _ _ ⟨c1, [7], rfl, (same_upd hc0).trans (same_upd hc1), ?_, upd_same, Nat.le_refl _, by decide⟩⟩
      exact (same_upd hc0).free hc1
    · have c' := of_decide_eq_false (Bool.eq_false_iff.mpr c)
      refine hN _ _ ⟨c0, ns, rfl, same_upd hc0, hc0, upd_same, ?_, h63⟩
      cases ns with
      | nil => exact absurd rfl c'
      | cons x r => exact Nat.succ_le_succ (Nat.zero_le _)
  rintro σ H1 ⟨c, ms, rfl, s1, hc, hC, hm1, hm63⟩
  -- found = []; mixed = 12345; for k in range(count)
  refine ⟨(by show 0 ≤ sizeLine; decide), fun l hl => ⟨_, rfl, 500, rfl, by decide, by decide, ?_⟩⟩
  have hcl : c ≠ l := ne_of_none hC hl
  refine for_range (lo := 0) (n := 500) (fun i σ H2 => ∃ (ms ds : List Int) (m : Int) (v5 v6 v7 v8 : Option V), σ = [some (.ref a), some (.int 500), some (.ref c), some (.ref l), some (.int m), v5, v6, v7, v8] ∧ Same H H2 ∧
      H2 c = some (.lst (ms.map V.int)) ∧ 1 ≤ ms.length ∧ ms.length ≤ 63 ∧ H2 l = some (.lst (ds.map V.int)) ∧ ds.length ≤ i ∧ 0 ≤ m ∧ m < 2147483647)
    ⟨ms, [], 12345, none, none, none, none, rfl, s1.trans (same_upd hl), by rw [upd_ne hcl]; exact hC, hm1, hm63, upd_same, Nat.zero_le _, by decide, by decide⟩ ?_ ?_
  · rintro i σ H2 hi ⟨ms, ds, m, v5, v6, v7, v8, rfl, s2, hC2, h1, h2, hL2, hd, hm0, hm2⟩
    have hJ0 : 0 ≤ ((0 : Int) + (i : Int)).fmod (ms.length : Int) := Int.fmod_nonneg_of_pos _ (by omega)
    have hJ1 : ((0 : Int) + (i : Int)).fmod (ms.length : Int) < (ms.length : Int) := Int.fmod_lt_of_pos _ (by omega)
    have hcl2 : c ≠ l := hcl
    refine ⟨_, rfl, _, rfl, c, _, rfl, .inl (SqL.of hC2), _, _, rfl, rfl, ?_, ?_⟩
    · rw [List.length_map]
      omega
    rw [List.length_map]
    dsimp only
    generalize ((0 : Int) + (i : Int)).fmod (ms.length : Int) = J at hJ0 hJ1
    obtain ⟨j, rfl⟩ : ∃ j : Nat, J = (j : Int) := ⟨J.toNat, by omega⟩
    have hj : j < ms.length := by omega
    have hx : (ms.map V.int)[j]? = some (.int ms[j]) := by rw [List.getElem?_map, List.getElem?_eq_getElem hj]; rfl
    generalize ms[j] = x at hx
    refine ⟨_, rfl, _, rfl, c, _, j, _, rfl, rfl, SqL.of hC2, atI_nat hx, ?_⟩
    have cm : ∀ (u v : Int), -(2 ^ 64) < v ∧ v < 2 ^ 64 → CMul u v := fun u v h => .inr h
    -- mixed
    refine ⟨_, rfl, _, _, rfl, rfl, cm _ _ (by decide), _, rfl, .inl ⟨_, rfl, _, _, rfl, rfl, (by show (0 : Int) < _; decide), _, _, rfl, rfl, cm _ _ (by decide), _, _, rfl, rfl, _, rfl, _, _, rfl, rfl, cm _ _ (by decide), _, _, rfl, rfl, _, _, rfl, rfl, .inl ⟨_, rfl, _, _, rfl, rfl, (by show (0 : Int) < _; decide), ?_⟩⟩⟩
    have hm0' := Int.emod_nonneg (a := ((m * 48271 + x % 1000003 * 69621 + (0 + (i : Int)) * 7919 + 11))) (b := 2147483647) (by decide)
    have hm2' := Int.emod_lt_of_pos ((m * 48271 + x % 1000003 * 69621 + (0 + (i : Int)) * 7919 + 11)) (b := 2147483647) (by decide)
    dsimp only
    generalize ((m * 48271 + x % 1000003 * 69621 + (0 + (i : Int)) * 7919 + 11)) % 2147483647 = m' at hm0' hm2'
    -- again
    refine ⟨_, rfl, _, rfl, _, _, rfl, rfl, cm _ _ ⟨by omega, by omega⟩, _, rfl, _, _, rfl, rfl, .inr ⟨by omega, by omega⟩, _, _, rfl, rfl, _, rfl, _, _, rfl, rfl, .inl ⟨_, rfl, _, _, rfl, rfl, (by show (0 : Int) < _; decide), ?_⟩⟩
    -- the test
    refine ⟨_, rfl, _, _, rfl, rfl, ⟨by decide, by decide, by decide⟩, _, _, rfl, rfl, _, rfl, ?_⟩
    refine ite2 (fun _ => ?_) (fun _ => ?_)
    · refine ⟨_, rfl, .inl ⟨rfl, _, SqL.of hL2⟩, _, rfl, .inl ⟨_, rfl, _, _, rfl, rfl, (by show (0 : Int) < _; decide), l, _, _, rfl, rfl, hL2, ?_, ?_⟩⟩
      · rw [List.length_map, sizeLine_eq]
        omega
      · refine ⟨_, rfl, _, _, rfl, rfl, ⟨by decide, by decide⟩, _, rfl, _, rfl, c, _, _, j, rfl, rfl, by rw [upd_ne hcl2]; exact hC2, ?_, ?_⟩
        · rw [List.length_map]
          unfold ixN
          rw [if_pos (by omega), if_pos (by omega)]
          rfl
        · refine ⟨ms.set j (x / 1000), ds ++ [x % 1000], m', _, _, _, _, rfl, fun b o e => ?_, ?_, by rw [List.length_set]; exact h1, by rw [List.length_set]; exact h2, ?_, by rw [List.length_append, List.length_singleton]; omega, hm0', hm2'⟩
          · rw [upd_ne (ne_of_none e hc), upd_ne (ne_of_none e (s1.free hl))]
            exact s2 _ _ e
          · rw [upd_same, List.map_set]
          · rw [upd_ne (Ne.symm hcl2), upd_same, List.map_append]
            rfl
    · refine ⟨_, rfl, .inl ⟨rfl, _, SqL.of hL2⟩, _, rfl, .inl ⟨_, rfl, _, _, rfl, rfl, (by show (0 : Int) < _; decide), l, _, _, rfl, rfl, hL2, ?_, ?_⟩⟩
      · rw [List.length_map, sizeLine_eq]
        omega
      · refine ⟨ms, ds ++ [((m' * m' + 31 * m' + (0 + (i : Int))) % 1000003) % 1000], m', _, _, _, _, rfl, fun b o e => ?_, ?_, h1, h2, ?_, by rw [List.length_append, List.length_singleton]; omega, hm0', hm2'⟩
        · rw [upd_ne (ne_of_none e (s1.free hl))]
          exact s2 _ _ e
        · rw [upd_ne hcl2]
          exact hC2
        · rw [upd_same, List.map_append]
          rfl
  · rintro σ H2 ⟨ms, ds, m, v5, v6, v7, v8, rfl, s2, hC2, h1, h2, hL2, hd, hm0, hm2⟩
    refine ⟨_, rfl, .inl ⟨rfl, _, SqL.of hL2⟩, l, _, rfl, rfl, hL2, _, rfl, ?_⟩
    refine q _ l ds.reverse (fun b o e => ?_) (s1.free hl) ?_
    · rw [upd_ne (ne_of_none e (s1.free hl))]
      exact s2 _ _ e
    · rw [upd_same, List.map_reverse]

/-! ### _law_take -/
def SameBut (d : Addr) (H H' : Hp) : Prop := ∀ b o, b ≠ d → H b = some o → H' b = some o
theorem SameBut.trans {d : Addr} {H H1 H2 : Hp} (a : SameBut d H H1) (b : SameBut d H1 H2) : SameBut d H H2 := fun c o n h => b c o n (a c o n h)
theorem SameBut.refl (d : Addr) (H : Hp) : SameBut d H H := fun _ _ _ h => h
theorem SameBut.of {d : Addr} {H H' : Hp} (s : Same H H') : SameBut d H H' := fun b o _ h => s b o h
/-- what stands at d: some ints -/
def Ds (H : Hp) (d : Addr) : Prop := ∃ ds : List Int, H d = some (.lst (ds.map V.int))
theorem Ds.mono {H H' : Hp} {d : Addr} (h : Ds H d) (s : Same H H') : Ds H' d := let ⟨ds, e⟩ := h; ⟨ds, s _ _ e⟩
def spTake : Sp := fun vs H Q _ => ∃ (d : Addr) (m : Int), vs = [.ref d, .int m] ∧ Ds H d ∧ 0 < m ∧ ∀ (r : Int) (H' : Hp), 0 ≤ r → r < m → SameBut d H H' → Ds H' d → Q (.int r) H'
theorem sc__law_take : FnScope ["draws", "limit"] ["draws", "limit"] (defScope s__law_take) := ⟨rfl, rfl, rfl, by decide +kernel, rfl, by decide +kernel, by decide +kernel⟩
theorem ok__law_take {f : Addr} {fd : FuncData} (T : TopF K w mg aF aS es n t1 t2 t3 t4 t5 t6) (F : Fun K "_law_take" "_law_take" s__law_take f fd) : FnOk P w K mg base CX0 1 f fd ["draws", "limit"] spTake := by
  have sc := sc__law_take
  refine F.ok sc (fun vs H Q E h => ?_) (fun cdv A outer s H vs Q E hr h => ?_)
  · obtain ⟨d, m, rfl, _⟩ := h
    rfl
  obtain ⟨d, m, rfl, ⟨ds, hd⟩, hm, q⟩ := h
  refine ⟨_, (pss_cons (ps_if (pt_cmpR op_eq (pe_callB call_len_seq (by rfl) T.n_len PySem.boot_len (pa_cons (pv 0) pa_nil)) pe_int (nomark _)) (pss_one (ps_ret pe_int)) pss_nil)
    (pss_one (ps_ret (pe_op op_modN (pe_callTy call_int1 (by rfl) T.n_int (by decide +kernel) (pa_cons (pe_bm0 PySem.F.plainAttrs_list PySem.F.slot_list_pop PySem.F.type_list_pop mt_pop (pv 0)) pa_nil)) (pv 1))))), ?_⟩
  refine ⟨_, rfl, d, _, rfl, .inl (SqL.of hd), rfl, _, rfl, ?_⟩
  refine ite2 (fun c => ?_) (fun c => ?_)
  · exact q 0 H (Int.le_refl _) hm (SameBut.refl _ _) ⟨ds, hd⟩
  · have c' := of_decide_eq_false (Bool.eq_false_iff.mpr c)
    have hl : 1 ≤ ds.length := by
      cases ds with
      | nil => exact absurd rfl c'
      | cons a r => exact Nat.succ_le_succ (Nat.zero_le _)
    have hx : (ds.map V.int)[(ds.map V.int).length - 1]? = some (.int ds[ds.length - 1]) := by
      rw [List.length_map, List.getElem?_map, List.getElem?_eq_getElem (by omega)]
      rfl
    generalize ds[ds.length - 1] = x at hx
    refine ⟨_, rfl, .inl ⟨rfl, _, SqL.of hd⟩, d, _, _, rfl, rfl, hd, hx, .inl ⟨_, rfl, _, rfl, _, _, rfl, rfl, ?_, ?_⟩⟩
    · show m ≠ 0
      omega
    · refine q _ _ (Int.fmod_nonneg_of_pos _ hm) (Int.fmod_lt_of_pos _ hm) (fun b o hb e => ?_) ⟨ds.dropLast, ?_⟩
      · rw [upd_ne hb]
        exact e
      · rw [upd_same, List.map_dropLast]

/-! ### _law_sort -/
def spSortL : Sp := fun vs H Q _ => ∃ z : PySem.Str, vs = [.str z] ∧ z.length ≤ 2000 ∧ cod z ≠ [] ∧ ∀ H', Same H H' → Q (.str (sortP (cod z))) H'
theorem sc__law_sort : FnScope ["word", "body", "sign"] ["word"] (defScope s__law_sort) := ⟨rfl, rfl, rfl, by decide +kernel, rfl, by decide +kernel, by decide +kernel⟩
theorem starts_minus (z : PySem.Str) : Txt.startswith z (PySem.Str.ofString "-") = decide ((cod z).take 1 = [45]) := by
  rw [show PySem.Str.ofString "-" = ⟨#[45]⟩ by decide +kernel]
  unfold Txt.startswith
  rw [StrLaws.subAt_eq]
  have hl := cod_len z
  show (decide (0 + 1 ≤ z.length) && (((cod z).drop 0).take 1 == [45])) = _
  rw [List.drop_zero]
  by_cases h : (cod z).take 1 = [45]
  · have h1 : 1 ≤ z.length := by
      rw [← hl]
      have := at_lt (take1.mp h)
      omega
    rw [h, decide_eq_true (by omega)]
    rfl
  · rw [decide_eq_false h, Bool.and_eq_false_iff]
    exact .inr (beq_false_of_ne h)
theorem in_figs (z : PySem.Str) (hz : z.length ≤ 1) : inV (.str z) ((cod figsT).map fun c => V.str ⟨#[c]⟩) = (match (cod z)[0]? with | none => false | some c => isFig c) := by
  unfold inV
  rw [List.any_map]
  have e : ∀ c, ((fun y => eqV y (.str z)) ∘ fun c => V.str ⟨#[c]⟩) c = decide (cod z = [c]) := fun c => eqV_str _ _
  have e2 : ((fun y => eqV y (.str z)) ∘ fun c => V.str ⟨#[c]⟩) = fun c => decide (cod z = [c]) := funext e
  rw [e2]
  have hl := cod_len z
  cases h : cod z with
  | nil => rw [Bool.eq_iff_iff]; simp
  | cons c r =>
    have hr : r = [] := by
      rw [h] at hl
      cases r with
      | nil => rfl
      | cons a b => simp at hl; omega
    subst hr
    show _ = isFig c
    unfold isFig
    rw [Bool.eq_iff_iff, List.any_eq_true, decide_eq_true_eq]
    constructor
    · rintro ⟨d, hd, e⟩
      have := of_decide_eq_true e
      cases this
      exact hd
    · intro hd
      exact ⟨c, hd, decide_eq_true rfl⟩
theorem ok__law_sort {f : Addr} {fd : FuncData} (T : TopF K w mg aF aS es n t1 t2 t3 t4 t5 t6) (F : Fun K "_law_sort" "_law_sort" s__law_sort f fd) : FnOk P w K mg base CX0 1 f fd ["word"] spSortL := by
  have sc := sc__law_sort
  refine F.ok sc (fun vs H Q E h => ?_) (fun cdv A outer s H vs Q E hr h => ?_)
  · obtain ⟨z, rfl, _⟩ := h
    rfl
  obtain ⟨z, rfl, hz, hne, q⟩ := h
  have hl := cod_len z
  have l20 : ∀ (m : Nat), m = (cod z).length → m = z.length := fun m h => h.trans hl
  rw [sort_eq hne] at q
  unfold sortL at q
  refine ⟨_, (pss_cons (ps_set (i := 1) sc.nd rfl (Or.inl rfl) (pe_ifExp (pt_val (pe_bm PySem.F.plainAttrs_str PySem.F.slot_str_startswith PySem.F.type_str_startswith mt_startswith (pv 0) (pa_cons pe_str pa_nil))) (pe_slice sl_str (pv 0) (po_some pe_int) po_none) (pv 0)))
    (pss_cons (ps_if (PW.pt (pw_and (pt_cmpR op_ne (pv 1) pe_str (nomark _)) (pw_and1 (pt_val (pe_callB (cr_all rfl) (by rfl) T.n_all (by decide +kernel) (pa_cons (pe_lc (own := [("sign", 2)]) rfl sc.nd (pi_str (pv 1)) (blkOk_by (own := [("sign", 2)]) (N := ["word", "body", "sign"]) (sc := defScope s__law_sort) (by decide +kernel)) (fun _ _ _ _ _ => (pg_name (i := 2) sc.nd rfl (.inl rfl))) (fun _ _ _ _ _ => pts_nil) (fun _ _ _ _ _ => (pe_cmpR op_in_sign (pv 2) pe_str (by rfl)))) pa_nil)))))) (pss_one (ps_ret (pe_ifExp (PW.pt (pw_or (pt_cmpR op_eq (pv 0) pe_str (nomark _)) (pw_or1 (PW.pt (pw_and (pt_cmpR op_ne (pe_ix ix_str (pv 1) pe_int (fun _ _ => rfl)) pe_str (nomark _)) (pw_and1 (pt_cmpR op_lt (pe_callB call_len_str (by rfl) T.n_len PySem.boot_len (pa_cons (pv 1) pa_nil)) pe_int (nomark _)))))))) pe_str pe_str))) pss_nil)
    (pss_cons (ps_if (PW.pt (pw_or (pt_cmpR op_eq (pv 0) pe_str (nomark _)) (pw_or1 (pt_cmpR op_eq (pv 0) pe_str (nomark _))))) (pss_one (ps_ret pe_str)) pss_nil)
    (pss_cons (ps_if (PW.pt (pw_or (pt_cmpR op_eq (pv 0) pe_str (nomark _)) (pw_or1 (pt_cmpR op_eq (pv 0) pe_str (nomark _))))) (pss_one (ps_ret (pe_ix ix_tup (pe_tup (pa_cons pe_str (pa_cons pe_str pa_nil))) (pe_callTy call_int1 (by rfl) T.n_int (by decide +kernel) (pa_cons (pe_cmpR op_eq (pv 0) pe_str (nomark _)) pa_nil)) (fun _ _ => rfl)))) pss_nil)
    (pss_cons (ps_for PassesOwn.never rfl (pi_str (pv 0)) (pg_name (i := 2) sc.nd rfl (.inl rfl)) (pss_one (ps_if (pt_cmpR op_notIn_sign (pv 2) pe_str (by rfl)) (pss_one (ps_ret pe_str)) pss_nil)))
    (pss_cons (ps_if (PW.pt (pw_or (pt_cmpR op_gt (pe_callB call_len_str (by rfl) T.n_len PySem.boot_len (pa_cons (pv 0) pa_nil)) pe_int (nomark _)) (pw_or1 (pt_cmpR op_in_seq (pe_slice sl_str (pv 1) po_none (po_some pe_int)) (pe_callTy (call_list_text rfl) (by rfl) T.n_list (by decide +kernel) (pa_cons pe_str pa_nil)) (by rfl))))) (pss_one (ps_ret pe_str)) pss_nil)
    (pss_one (ps_ret pe_str)))))))), ?_⟩
  refine seq_cut (fun σ H1 => ∃ bz : PySem.Str, σ = [some (.str z), some (.str bz), none] ∧ H1 = H ∧ cod bz = bodyOf (cod z) ∧ bz.length ≤ 2000) (fun N hN => ?_) ?_
  · refine ⟨_, rfl, rfl, _, _, rfl, rfl, _, rfl, ?_⟩
    rw [starts_minus]
    refine ite2 (fun c => ?_) (fun c => ?_)
    · refine ⟨_, rfl, _, rfl, z, rfl, small2 hz, hN _ _ ⟨_, rfl, rfl, ?_, Nat.le_trans (cut_len ..) hz⟩⟩
      rw [show (1 : Int) = ((1 : Nat) : Int) from rfl, cod_from]
      unfold bodyOf
      exact (if_pos (of_decide_eq_true c)).symm
    · refine ⟨_, rfl, hN _ _ ⟨_, rfl, rfl, ?_, hz⟩⟩
      unfold bodyOf
      exact (if_neg (of_decide_eq_false (Bool.eq_false_iff.mpr c))).symm
  rintro σ H1 ⟨bz, rfl, rfl, eb, lb⟩
  rw [← eb] at q
  have hlb := cod_len bz
  have e0 : cod (PySem.Str.ofString "") = [] := by decide +kernel
  have e48 : cod (PySem.Str.ofString "0") = [48] := by decide +kernel
  -- a number
  refine seq_cut (fun σ H2 => σ = [some (.str z), some (.str bz), none] ∧ Same H1 H2 ∧ ¬ (cod bz ≠ [] ∧ (cod bz).all isFig = true)) (fun N hN => ?_) ?_
  · refine ⟨_, rfl, rfl, _, rfl, ?_⟩
    rw [dec_str, e0]
    by_cases h0 : cod bz = []
    · rw [decide_eq_true h0]
      exact iteF (iteF (hN _ _ ⟨rfl, Same.refl _, fun h => h.1 h0⟩))
    · rw [decide_eq_false h0]
      refine iteT (all_read rfl (Nat.lt_succ_self 2) lb fun H2 s2 => ⟨_, rfl, ?_⟩)
      have ea : ((cod bz).all fun c => decide (c ∈ cod (PySem.Str.ofString "0123456789"))) = (cod bz).all isFig := rfl
      rw [ea]
      cases ha : (cod bz).all isFig with
      | false => exact iteF (hN _ _ ⟨rfl, s2, fun h => by rw [ha] at h; exact Bool.noConfusion h.2⟩)
      | true =>
        rw [if_pos ⟨h0, ha⟩] at q
        have q2 := q H2 s2
        refine iteT ⟨_, rfl, rfl, _, rfl, ?_⟩
        rw [dec_str, e48]
        by_cases hz0 : cod z = [48]
        · rw [if_pos (.inl hz0)] at q2
          rw [decide_eq_true hz0]
          exact iteT (iteT q2)
        · rw [decide_eq_false hz0]
          obtain ⟨d, hd⟩ := some_at (cs := cod bz) (k := 0) (by
            cases hc : cod bz with
            | nil => exact absurd hc h0
            | cons a r => simp)
          refine iteF ⟨_, rfl, bz, 0, d, rfl, rfl, small2 lb, at_one hd, rfl, _, rfl, ?_⟩
          rw [dec_str, e48, show cod ⟨#[d]⟩ = [d] from rfl, dec_sing]
          rw [hd] at q2
          by_cases h48 : d = 48
          · rw [decide_eq_true h48]
            rw [if_neg (by rintro (h | h); exact hz0 h; exact h.1 (by rw [h48]))] at q2
            exact iteF (iteF q2)
          · rw [decide_eq_false h48]
            refine iteT ⟨_, rfl, bz, rfl, small2 lb, _, _, rfl, rfl, _, rfl, ?_⟩
            refine ite2 (fun c => ?_) (fun c => ?_)
            · have c' := of_decide_eq_true c
              rw [if_pos (.inr ⟨fun q => h48 (Option.some.inj q), by omega⟩)] at q2
              exact q2
            · have c' := of_decide_eq_false (Bool.eq_false_iff.mpr c)
              rw [if_neg (by rintro (h | h); exact hz0 h; omega)] at q2
              exact q2
  rintro σ H2 ⟨rfl, s2, hn⟩
  rw [if_neg hn] at q
  -- a flag
  refine seq_cut (fun σ H3 => σ = [some (.str z), some (.str bz), none] ∧ H3 = H2 ∧ ¬ (cod z = flagT ∨ cod z = flagF)) (fun N hN => ?_) ?_
  · refine ⟨_, rfl, rfl, _, rfl, ?_⟩
    rw [dec_str, show cod (PySem.Str.ofString "#t") = flagT by decide +kernel]
    by_cases h1 : cod z = flagT
    · rw [if_pos (.inl h1)] at q
      rw [decide_eq_true h1]
      exact iteT (iteT (q _ s2))
    · rw [decide_eq_false h1]
      refine iteF ⟨_, rfl, rfl, _, rfl, ?_⟩
      rw [dec_str, show cod (PySem.Str.ofString "#f") = flagF by decide +kernel]
      by_cases h2 : cod z = flagF
      · rw [if_pos (.inr h2)] at q
        rw [decide_eq_true h2]
        exact iteT (q _ s2)
      · rw [decide_eq_false h2]
        exact iteF (hN _ _ ⟨rfl, rfl, fun h => h.elim h1 h2⟩)
  rintro σ H3 ⟨rfl, rfl, hf⟩
  rw [if_neg hf] at q
  -- dots, wild
  refine seq_cut (fun σ H4 => σ = [some (.str z), some (.str bz), none] ∧ H4 = H3 ∧ ¬ cod z = dotsC ∧ ¬ cod z = [95]) (fun N hN => ?_) ?_
  · have ew : cod (PySem.Str.ofString "_") = [95] := by decide +kernel
    have ret : (cod z = dotsC ∨ cod z = [95]) → ∀ H4 p (k : Bool), Same H1 H4 → H4 p = some (.tup [.str sDots, .str sWild]) → k = decide (cod z = [95]) →
        ∃ (q : Addr) (xs : List V) (i : Int) (v : V), V.ref p = .ref q ∧ V.int (if k = true then 1 else 0) = .int i ∧ SqT K H4 q xs ∧ atI xs i = some v ∧ Q v H4 := fun hh H4 p k s4 hp hk => by
      by_cases hw : cod z = [95]
      · rw [if_neg (fun h => by rw [hw] at h; exact absurd h (by decide)), if_pos hw] at q
        rw [decide_eq_true hw] at hk
        subst hk
        exact ⟨p, _, 1, _, rfl, rfl, SqT.of hp, rfl, q _ s4⟩
      · have hd := hh.resolve_right hw
        rw [if_pos hd] at q
        rw [decide_eq_false hw] at hk
        subst hk
        exact ⟨p, _, 0, _, rfl, rfl, SqT.of hp, rfl, q _ s4⟩
    refine ⟨_, rfl, rfl, _, rfl, ?_⟩
    rw [dec_str, show cod (PySem.Str.ofString "...") = dotsC by decide +kernel]
    by_cases h1 : cod z = dotsC
    · rw [decide_eq_true h1]
      refine iteT (iteT ⟨(by show 2 ≤ sizeLine; decide), fun p hp => ⟨_, rfl, rfl, .inr ⟨_, rfl, ?_⟩⟩⟩)
      exact ret (.inl h1) _ p _ (s2.trans (same_upd hp)) upd_same (by rw [dec_str, ew])
    · rw [decide_eq_false h1]
      refine iteF ⟨_, rfl, rfl, _, rfl, ?_⟩
      rw [dec_str, ew]
      by_cases h2 : cod z = [95]
      · rw [decide_eq_true h2]
        refine iteT ⟨(by show 2 ≤ sizeLine; decide), fun p hp => ⟨_, rfl, rfl, .inr ⟨_, rfl, ?_⟩⟩⟩
        exact ret (.inr h2) _ p _ (s2.trans (same_upd hp)) upd_same (by rw [dec_str, ew])
      · rw [decide_eq_false h2]
        exact iteF (hN _ _ ⟨rfl, rfl, h1, h2⟩)
  rintro σ H4 ⟨rfl, rfl, hd, hw⟩
  rw [if_neg hd, if_neg hw] at q
  -- each sign
  refine seq_cut (fun σ H5 => (∃ v, σ = [some (.str z), some (.str bz), v]) ∧ H5 = H4 ∧ (cod z).all isNm = true) (fun N hN => ?_) ?_
  · refine ⟨_, rfl, z, rfl, for_str (fun i σ H5 => (∃ v, σ = [some (.str z), some (.str bz), v]) ∧ H5 = H4 ∧ ((cod z).take i).all isNm = true) ⟨⟨none, rfl⟩, rfl, rfl⟩ ?_ ?_⟩
    · rintro i c σ H5 hc ⟨⟨v, rfl⟩, rfl, ht⟩
      refine ⟨_, rfl, c, _, rfl, rfl, _, rfl, ?_⟩
      have en : decide (c ∈ (PySem.Str.ofString "abcdefghijklmnopqrstuvwxyz0123456789!*+-./:<=>?_").cps.toList) = isNm c := rfl
      rw [en]
      cases hnm : isNm c with
      | false =>
        refine iteT ?_
        have ha : (cod z).all isNm = false := by
          rw [List.all_eq_false]
          exact ⟨c, List.mem_of_getElem? hc, by rw [hnm]; exact Bool.noConfusion⟩
        rw [if_pos ha] at q
        exact q _ s2
      | true =>
        refine iteF ⟨⟨_, rfl⟩, rfl, ?_⟩
        rw [List.take_add_one, hc, List.all_append, ht]
        show (true && (isNm c && true)) = true
        rw [hnm]
        rfl
    · rintro σ H5 ⟨⟨v, rfl⟩, rfl, ht⟩
      refine hN _ _ ⟨⟨v, rfl⟩, rfl, ?_⟩
      rw [List.take_of_length_le (Nat.le_of_eq hl)] at ht
      exact ht
  rintro σ H5 ⟨⟨v, rfl⟩, rfl, hnm⟩
  rw [if_neg (by rw [hnm]; exact Bool.noConfusion)] at q
  refine ⟨_, rfl, z, rfl, small2 hz, _, _, rfl, rfl, _, rfl, ?_⟩
  by_cases h20 : (20 : Int) < (z.length : Int)
  · rw [decide_eq_true h20]
    rw [if_pos (.inl (by omega))] at q
    exact iteT (iteT (q _ s2))
  · rw [decide_eq_false h20]
    refine iteF ⟨_, rfl, _, rfl, bz, rfl, small2 lb, _, rfl, by decide, fun l hnl => ?_⟩
    refine ⟨l, _, rfl, .inl (SqL.of upd_same), rfl, ?_, _, rfl, ?_⟩
    · rw [List.all_map]
      exact List.all_eq_true.mpr fun c _ => rfl
    · have ec : cod (cutS bz none (some (1 : Int))) = (cod bz).take 1 := cod_upto bz 1
      have hlen : (cutS bz none (some (1 : Int))).length ≤ 1 := by
        rw [← cod_len, ec, List.length_take]
        omega
      have e0' : (cod (cutS bz none (some (1 : Int))))[0]? = (cod bz)[0]? := by
        rw [ec]
        cases cod bz <;> rfl
      have ei : (if false = true then !inV (.str (cutS bz none (some 1))) ((cod figsT).map fun c => V.str ⟨#[c]⟩) else inV (.str (cutS bz none (some 1))) ((cod figsT).map fun c => V.str ⟨#[c]⟩)) = (match (cod bz)[0]? with | none => false | some c => isFig c) := by
        rw [if_neg (by decide), in_figs _ hlen, e0']
      rw [show (PySem.Str.ofString "0123456789") = figsT from rfl, ei]
      have s5 : Same H1 (upd H5 l (.lst ((cod figsT).map fun c => V.str ⟨#[c]⟩))) := s2.trans (same_upd hnl)
      cases hb : (cod bz)[0]? with
      | none =>
        rw [hb, if_neg (by rintro (h | ⟨c, h, _⟩); omega; cases h)] at q
        exact iteF (q _ s5)
      | some c =>
        cases hc : isFig c with
        | true =>
          rw [hb, if_pos (.inr ⟨c, rfl, hc⟩)] at q
          show if isFig c = true then _ else _
          rw [hc]
          exact iteT (q _ s5)
        | false =>
          rw [hb, if_neg (by
            rintro (h | ⟨d, h, h2⟩)
            · omega
            · cases h
              rw [hc] at h2
              cases h2)] at q
          show if isFig c = true then _ else _
          rw [hc]
          exact iteF (q _ s5)
end
end K1
set_option Elab.async false
set_option linter.all false
set_option maxRecDepth 100000
set_option maxHeartbeats 4000000
namespace K1
open PySem L2
section
variable {P : Program} {w : World} {K : PySem.W.Frag} {mg : PySem.Str → Option Value} {base : Heap} {aF aS : Addr} {es : Array DictEntry} {n : Nat} {t1 t2 t3 t4 t5 t6 : Tok}

/-! ### _law_tokens -/
theorem push_tok {H0 H2 : Hp} {l p : Addr} {ps : List Addr} {ts : List Tk} {t : Tk} {vs : List V} (hl : H0 l = none) (s : Same H0 H2) (hL : H2 l = some (.lst (ps.map V.ref))) (ht : Toks H2 ps ts) (hp : H2 p = none) (hv : vs = tokV t) :
    Same H0 (upd (upd H2 p (.tup vs)) l (.lst (ps.map V.ref ++ [V.ref p]))) ∧ (upd (upd H2 p (.tup vs)) l (.lst (ps.map V.ref ++ [V.ref p]))) l = some (.lst ((ps ++ [p]).map V.ref)) ∧
    Toks (upd (upd H2 p (.tup vs)) l (.lst (ps.map V.ref ++ [V.ref p]))) (ps ++ [p]) (ts ++ [t]) := by
  subst hv
  have hpl : p ≠ l := fun q => by rw [q, hL] at hp; cases hp
  refine ⟨fun b o e => ?_, ?_, .snoc (ht.mono fun b xs e => ?_) ?_⟩
  · rw [upd_ne (ne_of_none e hl), upd_ne (ne_of_none (s _ _ e) hp)]
    exact s _ _ e
  · rw [upd_same, List.map_append]
    rfl
  · rw [upd_ne (ne_of e hL (fun q => nomatch q)), upd_ne (ne_of_none e hp)]
    exact e
  · rw [upd_ne hpl, upd_same]
/-- while <test>: end = end + 1, where the test goes on while no sign of a kind stands there -/
theorem scan_while {c : TT} {cs : List Nat} {p : Nat → Bool} {st : Nat → L2.St} {i : Nat} {H : Hp} {D : Ends} {a : Nat} (ha : a ≤ cs.length)
    (hst : ∀ e : Nat, (st e)[i]? = some (some (.int (e : Int)))) (hset : ∀ e : Nat, (st e).set i (some (.int ((e : Int) + 1))) = st (e + 1))
    (hc : ∀ e : Nat, e ≤ cs.length → ∀ R : Bool → Hp → Prop, (∀ d, cs[e]? = some d → R (!p d) H) → (e = cs.length → R false H) → c (st e) H R)
    (after : D.nx (st (stop p cs a)) H) : tWhile c (tAsg (tOp (rI0 fun i j => V.int (i + j)) (tVar i) (tC (.int 1))) (gName i)) D (st a) H := by
  refine ⟨fun r σ H' => ∃ e : Nat, σ = st e ∧ H' = H ∧ e ≤ cs.length ∧ r = cs.length - e ∧ stop p cs e = stop p cs a, ⟨_, a, rfl, rfl, ha, rfl, rfl⟩, ?_⟩
  rintro r σ H' ⟨e, rfl, rfl, he, rfl, hs⟩
  refine hc e he _ (fun d hd => ?_) (fun h => ?_)
  · have hlt := at_lt hd
    cases hp : p d with
    | true =>
      rw [stop_here hd hp] at hs
      refine iteF ?_
      rw [hs]
      exact after
    | false =>
      rw [stop_next hd hp] at hs
      refine iteT ⟨fun σ' H' => ∃ m', m' < cs.length - e ∧ ∃ e : Nat, σ' = st e ∧ H' = _ ∧ e ≤ cs.length ∧ m' = cs.length - e ∧ stop p cs e = stop p cs a, fun _ _ h => h, _, hst e, _, _, rfl, rfl, ?_⟩
      exact ⟨cs.length - (e + 1), by omega, e + 1, hset e, rfl, by omega, rfl, hs⟩
  · rw [stop_end (by omega)] at hs
    refine iteF ?_
    rw [hs]
    exact after
theorem sc__law_tokens : FnScope ["text", "found", "at", "turn", "sign", "end", "closed"] ["text"] (defScope s__law_tokens) := ⟨rfl, rfl, rfl, by decide +kernel, rfl, by decide +kernel, by decide +kernel⟩
theorem ok__law_tokens {f : Addr} {fd : FuncData} (T : TopF K w mg aF aS es n t1 t2 t3 t4 t5 t6) (F : Fun K "_law_tokens" "_law_tokens" s__law_tokens f fd) (C__law_sort : Cal P w K mg base "_law_sort" 1 ["word"] spSortL) : FnOk P w K mg base CX0 2 f fd ["text"] spTokens := by
  have sc := sc__law_tokens
  refine F.ok sc (fun vs H Q E h => ?_) (fun cdv A outer s H vs Q E hr h => ?_)
  · obtain ⟨z, rfl, _⟩ := h
    rfl
  obtain ⟨z, rfl, hz, q⟩ := h
  have hl := cod_len z
  refine ⟨_, (pss_cons (ps_set (i := 1) sc.nd rfl (Or.inl rfl) (pe_lst pa_nil))
    (pss_cons (ps_set (i := 2) sc.nd rfl (Or.inl rfl) pe_int)
    (pss_cons (ps_for PassesOwn.never rfl (pi_range1 (by rfl) T.n_range (pa_cons (pe_op op_add (pe_callB call_len_str (by rfl) T.n_len PySem.boot_len (pa_cons (pv 0) pa_nil)) pe_int) pa_nil)) (pg_name (i := 3) sc.nd rfl (.inl rfl)) (pss_cons (ps_if (pt_cmpR op_ge (pv 2) (pe_callB call_len_str (by rfl) T.n_len PySem.boot_len (pa_cons (pv 0) pa_nil)) (nomark _)) (pss_one ps_break) pss_nil)
    (pss_cons (ps_set (i := 4) sc.nd rfl (Or.inl rfl) (pe_ix ix_str (pv 0) (pv 2) (fun _ _ => rfl)))
    (pss_cons (ps_set (i := 5) sc.nd rfl (Or.inl rfl) (pe_op op_add (pv 2) pe_int))
    (pss_cons (ps_if (pt_cmpR op_eq (pv 4) pe_str (nomark _)) (pss_one (ps_while PassesOwn.never (PW.pt (pw_and (pt_cmpR op_lt (pv 5) (pe_callB call_len_str (by rfl) T.n_len PySem.boot_len (pa_cons (pv 0) pa_nil)) (nomark _)) (pw_and1 (pt_cmpR op_ne (pe_ix ix_str (pv 0) (pv 5) (fun _ _ => rfl)) pe_str (nomark _))))) (pss_one (ps_set (i := 5) sc.nd rfl (Or.inl rfl) (pe_op op_add (pv 5) pe_int))))) (pss_one (ps_if (pt_cmpR op_in_sign (pv 4) pe_str (by rfl)) (pss_one (ps_expr (pe_bm PySem.F.plainAttrs_list PySem.F.slot_list_append PySem.F.type_list_append mt_append (pv 1) (pa_cons (pe_tup (pa_cons pe_str (pa_cons (pv 2) (pa_cons (pv 5) pa_nil)))) pa_nil)))) (pss_one (ps_if (pt_cmpR op_eq (pv 4) pe_str (nomark _)) (pss_cons (ps_while PassesOwn.never (PW.pt (pw_and (pt_cmpR op_lt (pv 5) (pe_callB call_len_str (by rfl) T.n_len PySem.boot_len (pa_cons (pv 0) pa_nil)) (nomark _)) (pw_and (pt_cmpR op_ne (pe_ix ix_str (pv 0) (pv 5) (fun _ _ => rfl)) pe_str (nomark _)) (pw_and1 (pt_cmpR op_ne (pe_ix ix_str (pv 0) (pv 5) (fun _ _ => rfl)) pe_str (nomark _)))))) (pss_one (ps_set (i := 5) sc.nd rfl (Or.inl rfl) (pe_op op_add (pv 5) pe_int))))
    (pss_cons (ps_set (i := 6) sc.nd rfl (Or.inl rfl) (pe_and (pe_cmpR op_lt (pv 5) (pe_callB call_len_str (by rfl) T.n_len PySem.boot_len (pa_cons (pv 0) pa_nil)) (nomark _)) (pe_one (pe_cmpR op_eq (pe_ix ix_str (pv 0) (pv 5) (fun _ _ => rfl)) pe_str (nomark _)))))
    (pss_cons (ps_set (i := 5) sc.nd rfl (Or.inl rfl) (pe_op op_add (pv 5) (pe_callTy call_int1 (by rfl) T.n_int (by decide +kernel) (pa_cons (pv 6) pa_nil))))
    (pss_one (ps_expr (pe_bm PySem.F.plainAttrs_list PySem.F.slot_list_append PySem.F.type_list_append mt_append (pv 1) (pa_cons (pe_tup (pa_cons (pe_ifExp (PW.pt (pw_and (pt_val (pv 6)) (pw_and1 (pt_cmpR op_lt (pe_op op_sub (pv 5) (pv 2)) pe_int (nomark _))))) pe_str pe_str) (pa_cons (pv 2) (pa_cons (pv 5) pa_nil)))) pa_nil))))))) (pss_one (ps_if (PW.pt (pw_and (pt_cmpR op_ne (pv 4) pe_str (nomark _)) (pw_and1 (pt_cmpR op_ne (pv 4) pe_str (nomark _))))) (pss_cons (ps_while PassesOwn.never (PW.pt (pw_and (pt_cmpR op_lt (pv 5) (pe_callB call_len_str (by rfl) T.n_len PySem.boot_len (pa_cons (pv 0) pa_nil)) (nomark _)) (pw_and1 (pt_cmpR op_notIn_sign (pe_ix ix_str (pv 0) (pv 5) (fun _ _ => rfl)) pe_str (by rfl))))) (pss_one (ps_set (i := 5) sc.nd rfl (Or.inl rfl) (pe_op op_add (pv 5) pe_int))))
    (pss_one (ps_if (PW.pt (pw_and (pt_cmpR op_eq (pe_slice sl_str (pv 0) (po_some (pv 2)) (po_some (pv 5))) pe_str (nomark _)) (pw_and1 (pt_cmpR op_eq (pe_slice sl_str (pv 0) (po_some (pv 5)) (po_some (pe_op op_add (pv 5) pe_int))) pe_str (nomark _))))) (pss_cons (ps_set (i := 5) sc.nd rfl (Or.inl rfl) (pe_op op_add (pv 5) pe_int))
    (pss_one (ps_expr (pe_bm PySem.F.plainAttrs_list PySem.F.slot_list_append PySem.F.type_list_append mt_append (pv 1) (pa_cons (pe_tup (pa_cons pe_str (pa_cons (pv 2) (pa_cons (pv 5) pa_nil)))) pa_nil))))) (pss_one (ps_expr (pe_bm PySem.F.plainAttrs_list PySem.F.slot_list_append PySem.F.type_list_append mt_append (pv 1) (pa_cons (pe_tup (pa_cons (pe_cal C__law_sort (hr.mono (by decide)) (by rfl) pass0 (pa_cons (pe_slice sl_str (pv 0) (po_some (pv 2)) (po_some (pv 5))) pa_nil)) (pa_cons (pv 2) (pa_cons (pv 5) pa_nil)))) pa_nil))))))) pss_nil)))))))
    (pss_one (ps_set (i := 2) sc.nd rfl (Or.inl rfl) (pv 5))))))))
    (pss_one (ps_ret (pv 1)))))), ?_⟩
  refine seq_cut (fun σ H1 => ∃ l : Addr, σ = [some (.str z), some (.ref l), none, none, none, none, none] ∧ H1 = upd H l (.lst []) ∧ H l = none) (fun N hN => ⟨(by show 0 ≤ sizeLine; decide), fun l hnl => hN _ _ ⟨l, rfl, rfl, hnl⟩⟩) ?_
  rintro σ H1 ⟨l, rfl, rfl, hnl⟩
  refine seq_cut (fun σ H1 => σ = [some (.str z), some (.ref l), some (.int 0), none, none, none, none] ∧ H1 = upd H l (.lst [])) (fun N hN => hN _ _ ⟨rfl, rfl⟩) ?_
  rintro σ H1 ⟨rfl, rfl⟩
  refine seq_cut (fun σ H1 => ∃ (ps : List Addr) (v2 v3 v4 v5 v6 : Option V), σ = [some (.str z), some (.ref l), v2, v3, v4, v5, v6] ∧ Same H H1 ∧ H1 l = some (.lst (ps.map V.ref)) ∧ Toks H1 ps (toksFrom (cod z) 0)) (fun N hN => ?_) ?_
  · refine ⟨_, rfl, z, rfl, small2 hz, _, _, rfl, rfl, (z.length : Int) + 1, rfl, by omega, by omega, ?_⟩
    refine for_range (lo := 0) (n := ((z.length : Int) + 1).toNat) (fun i σ H2 => ∃ (m : Nat) (ps : List Addr) (ts : List Tk) (v3 v4 v5 v6 : Option V), σ = [some (.str z), some (.ref l), some (.int m), v3, v4, v5, v6] ∧ Same H H2 ∧ m ≤ z.length ∧ i ≤ m ∧
      H2 l = some (.lst (ps.map V.ref)) ∧ Toks H2 ps ts ∧ ts ++ toksFrom (cod z) m = toksFrom (cod z) 0 ∧ ts.length ≤ m)
      ⟨0, [], [], none, none, none, none, rfl, same_upd hnl, Nat.zero_le _, Nat.le_refl _, upd_same, .nil, rfl, Nat.le_refl _⟩ ?_ ?_
    · rintro i σ H2 hi ⟨m, ps, ts, v3, v4, v5, v6, rfl, s2, hm, him, hL, ht, he, hlen⟩
      -- if at >= len(text): break
      refine seq_cut (fun σ H3 => σ = [some (.str z), some (.ref l), some (.int m), some (.int (0 + (i : Int))), v4, v5, v6] ∧ H3 = H2 ∧ m < z.length) (fun N2 hN2 => ?_) ?_
      · refine ⟨_, rfl, _, rfl, z, rfl, small2 hz, _, _, rfl, rfl, _, rfl, ?_⟩
        refine ite2 (fun c => ?_) (fun c => ?_)
        · have c' := of_decide_eq_true c
          rw [toks_end (by omega), List.append_nil] at he
          exact hN _ _ ⟨ps, _, _, _, _, _, rfl, s2, hL, by rw [← he]; exact ht⟩
        · have c' := of_decide_eq_false (Bool.eq_false_iff.mpr c)
          exact hN2 _ _ ⟨rfl, rfl, by omega⟩
      rintro σ H3 ⟨rfl, rfl, hm1⟩
      obtain ⟨d, hd⟩ := some_at (cs := cod z) (k := m) (by omega)
      have hmore := step_more hd
      rw [toks_more hd] at he
      -- sign = text[at]; end = at + 1
      refine seq_cut (fun σ H4 => σ = [some (.str z), some (.ref l), some (.int m), some (.int (0 + (i : Int))), some (.str ⟨#[d]⟩), v5, v6] ∧ H4 = H3) (fun N hN => ⟨_, rfl, _, rfl, z, m, d, rfl, rfl, small2 hz, at_one hd, hN _ _ ⟨rfl, rfl⟩⟩) ?_
      rintro σ H4 ⟨rfl, rfl⟩
      refine seq_cut (fun σ H5 => σ = [some (.str z), some (.ref l), some (.int m), some (.int (0 + (i : Int))), some (.str ⟨#[d]⟩), some (.int ((m + 1 : Nat) : Int)), v6] ∧ H5 = H4) (fun N hN => ⟨_, rfl, _, _, rfl, rfl, hN _ _ ⟨rfl, rfl⟩⟩) ?_
      rintro σ H5 ⟨rfl, rfl⟩
      refine seq_cut (fun σ H4 => ∃ (ps' : List Addr) (v6 : Option V), σ = [some (.str z), some (.ref l), some (.int m), some (.int (0 + (i : Int))), some (.str ⟨#[d]⟩), some (.int ((stepAt (cod z) m d).2 : Nat)), v6] ∧ Same H H4 ∧ H4 l = some (.lst (ps'.map V.ref)) ∧
        Toks H4 ps' (ts ++ (stepAt (cod z) m d).1.toList)) (fun N3 hN3 => ?_) ?_
      · have h10 : cod (PySem.Str.ofString "\n") = [10] := by decide +kernel
        have h34 : cod (PySem.Str.ofString "\"") = [34] := by decide +kernel
        have sz3 : (3 : Nat) ≤ sizeLine := by decide
        have psz : (ps.map V.ref).length < sizeLine := by
          rw [List.length_map, ht.len, sizeLine_eq]
          omega
        have mem : ∀ {p}, H5 p = none → p ≠ l := fun hp q => by rw [q, hL] at hp; cases hp
        unfold stepAt at hN3
        refine ⟨_, rfl, rfl, _, rfl, ?_⟩
        rw [dec_one, show cod (PySem.Str.ofString ";") = [59] by decide +kernel, dec_sing]
        refine ite2 (fun c1 => ?_) (fun c1 => ?_)
        · -- a remark
          have h59 := of_decide_eq_true c1
          have nb : ¬ isBlank d := by
            unfold isBlank
            omega
          rw [if_neg nb, if_pos h59] at hN3
          refine scan_while (cs := cod z) (p := isNL) (st := fun e => [some (.str z), some (.ref l), some (.int m), some (.int (0 + (i : Int))), some (.str ⟨#[d]⟩), some (.int (e : Int)), v6]) (by omega) (fun e => rfl) (fun e => rfl) (fun e he' R h1 h2 => ?_) ?_
          · refine ⟨_, rfl, _, rfl, z, rfl, small2 hz, _, _, rfl, rfl, _, rfl, ?_⟩
            refine ite2 (fun c => ?_) (fun c => ?_)
            · have c' := of_decide_eq_true c
              obtain ⟨x, hx⟩ := some_at (cs := cod z) (k := e) (by omega)
              refine ⟨_, rfl, _, rfl, z, e, x, rfl, rfl, small2 hz, at_one hx, rfl, _, rfl, ?_⟩
              rw [dec_one, h10, dec_sing]
              exact h1 x hx
            · have c' := of_decide_eq_false (Bool.eq_false_iff.mpr c)
              exact h2 (by omega)
          · rw [← stop_next (p := isNL) hd (decide_eq_false fun q => nb (.inr q))]
            exact hN3 _ _ ⟨ps, v6, rfl, s2, hL, (by show Toks H5 ps (ts ++ []); rw [List.append_nil]; exact ht)⟩
        · have h59 := of_decide_eq_false (Bool.eq_false_iff.mpr c1)
          rw [if_neg h59] at hN3
          refine ⟨_, rfl, d, _, rfl, rfl, _, rfl, ?_⟩
          rw [show decide (d ∈ (PySem.Str.ofString "()'").cps.toList) = decide (isSign d) from decide_eq_decide.mpr (in_sign d)]
          refine ite2 (fun c2 => ?_) (fun c2 => ?_)
          · -- a bracket or a quote sign
            have hsg := of_decide_eq_true c2
            have nb : ¬ isBlank d := by
              unfold isBlank isSign at *
              omega
            unfold tokOf at hN3
            rw [if_neg nb, if_pos hsg] at hN3
            refine ⟨_, rfl, .inl ⟨rfl, _, SqL.of hL⟩, _, rfl, _, rfl, sz3, fun p hp => ⟨l, _, _, rfl, rfl, by rw [upd_ne (Ne.symm (mem hp))]; exact hL, psz, ?_⟩⟩
            obtain ⟨g1, g2, g3⟩ := push_tok (t := (sSign, m, m + 1)) hnl s2 hL ht hp rfl
            exact hN3 _ _ ⟨_, v6, rfl, g1, g2, g3⟩
          · have hsg := of_decide_eq_false (Bool.eq_false_iff.mpr c2)
            unfold tokOf at hN3
            rw [if_neg hsg] at hN3
            refine ⟨_, rfl, rfl, _, rfl, ?_⟩
            rw [dec_one, h34, dec_sing]
            refine ite2 (fun c3 => ?_) (fun c3 => ?_)
            · -- a string
              have hq := of_decide_eq_true c3
              have nb : ¬ isBlank d := by
                unfold isBlank
                omega
              rw [if_neg nb, if_pos hq] at hN3
              unfold strTok at hN3
              have hse := stop_le (p := isQ) (cs := cod z) (k := m + 1) (by omega)
              have hsm := le_stop (p := isQ) (cs := cod z) (k := m + 1)
              refine seq_cut (fun σ H6 => σ = [some (.str z), some (.ref l), some (.int m), some (.int (0 + (i : Int))), some (.str ⟨#[d]⟩), some (.int ((stop isQ (cod z) (m + 1) : Nat) : Int)), v6] ∧ H6 = H5) (fun N4 hN4 => ?_) ?_
              · refine scan_while (cs := cod z) (p := isQ) (st := fun e => [some (.str z), some (.ref l), some (.int m), some (.int (0 + (i : Int))), some (.str ⟨#[d]⟩), some (.int (e : Int)), v6]) (by omega) (fun e => rfl) (fun e => rfl) (fun e he' R h1 h2 => ?_) (hN4 _ _ ⟨rfl, rfl⟩)
                refine ⟨_, rfl, _, rfl, z, rfl, small2 hz, _, _, rfl, rfl, _, rfl, ?_⟩
                refine ite2 (fun c => ?_) (fun c => ?_)
                · have c' := of_decide_eq_true c
                  obtain ⟨x, hx⟩ := some_at (cs := cod z) (k := e) (by omega)
                  have h1' := h1 x hx
                  unfold isQ at h1'
                  refine ⟨_, rfl, _, rfl, z, e, x, rfl, rfl, small2 hz, at_one hx, rfl, _, rfl, ?_⟩
                  rw [dec_one, h10, dec_sing]
                  by_cases x10 : x = 10
                  · rw [decide_eq_true x10] at h1' ⊢
                    exact iteF h1'
                  · rw [decide_eq_false x10] at h1' ⊢
                    refine iteT ⟨_, rfl, _, rfl, z, e, x, rfl, rfl, small2 hz, at_one hx, rfl, _, rfl, ?_⟩
                    rw [dec_one, h34, dec_sing]
                    exact h1'
                · have c' := of_decide_eq_false (Bool.eq_false_iff.mpr c)
                  exact h2 (by omega)
              rintro σ H6 ⟨rfl, rfl⟩
              generalize stop isQ (cod z) (m + 1) = e at hN3 hse hsm
              refine seq_cut (fun σ H7 => σ = [some (.str z), some (.ref l), some (.int m), some (.int (0 + (i : Int))), some (.str ⟨#[d]⟩), some (.int (e : Int)), some (.bl (decide ((cod z)[e]? = some 34)))] ∧ H7 = H6) (fun N4 hN4 => ?_) ?_
              · refine ⟨_, rfl, _, rfl, z, rfl, small2 hz, _, _, rfl, rfl, _, rfl, ?_⟩
                refine ite2 (fun c => ?_) (fun c => ?_)
                · have c' := of_decide_eq_true c
                  obtain ⟨x, hx⟩ := some_at (cs := cod z) (k := e) (by omega)
                  refine ⟨_, rfl, _, rfl, z, e, x, rfl, rfl, small2 hz, at_one hx, rfl, ?_⟩
                  rw [dec_one, h34, dec_sing]
                  refine hN4 _ _ ⟨?_, rfl⟩
                  rw [hx, show decide (some x = some 34) = decide (x = 34) from decide_eq_decide.mpr ⟨fun q => Option.some.inj q, fun q => by rw [q]⟩]
                  rfl
                · have c' := of_decide_eq_false (Bool.eq_false_iff.mpr c)
                  refine hN4 _ _ ⟨?_, rfl⟩
                  rw [List.getElem?_eq_none (by omega), decide_eq_false (fun q => nomatch q)]
                  rfl
              rintro σ H7 ⟨rfl, rfl⟩
              by_cases h34e : (cod z)[e]? = some 34
              · rw [decide_eq_true h34e]
                rw [if_pos h34e] at hN3
                refine seq_cut (fun σ H8 => σ = [some (.str z), some (.ref l), some (.int m), some (.int (0 + (i : Int))), some (.str ⟨#[d]⟩), some (.int ((e + 1 : Nat) : Int)), some (.bl true)] ∧ H8 = H7) (fun N4 hN4 => ⟨_, rfl, _, rfl, .inr ⟨_, rfl, _, _, rfl, rfl, hN4 _ _ ⟨rfl, rfl⟩⟩⟩) ?_
                rintro σ H8 ⟨rfl, rfl⟩
                refine ⟨_, rfl, .inl ⟨rfl, _, SqL.of hL⟩, _, rfl, _, rfl, ?_⟩
                refine iteT ⟨_, rfl, _, rfl, _, _, rfl, rfl, _, _, rfl, rfl, _, rfl, ?_⟩
                refine ite2 (fun c => ?_) (fun c => ?_)
                · have c' := of_decide_eq_true c
                  rw [if_pos (by omega)] at hN3
                  refine ⟨_, rfl, _, rfl, sz3, fun p hp => ⟨l, _, _, rfl, rfl, by rw [upd_ne (Ne.symm (mem hp))]; exact hL, psz, ?_⟩⟩
                  obtain ⟨g1, g2, g3⟩ := push_tok (t := (sString, m, e + 1)) hnl s2 hL ht hp rfl
                  exact hN3 _ _ ⟨_, _, rfl, g1, g2, g3⟩
                · have c' := of_decide_eq_false (Bool.eq_false_iff.mpr c)
                  rw [if_neg (by omega)] at hN3
                  refine ⟨_, rfl, _, rfl, sz3, fun p hp => ⟨l, _, _, rfl, rfl, by rw [upd_ne (Ne.symm (mem hp))]; exact hL, psz, ?_⟩⟩
                  obtain ⟨g1, g2, g3⟩ := push_tok (t := (sWrong, m, e + 1)) hnl s2 hL ht hp rfl
                  exact hN3 _ _ ⟨_, _, rfl, g1, g2, g3⟩
              · rw [decide_eq_false h34e]
                rw [if_neg h34e] at hN3
                refine seq_cut (fun σ H8 => σ = [some (.str z), some (.ref l), some (.int m), some (.int (0 + (i : Int))), some (.str ⟨#[d]⟩), some (.int (e : Int)), some (.bl false)] ∧ H8 = H7) (fun N4 hN4 => ⟨_, rfl, _, rfl, .inr ⟨_, rfl, _, _, rfl, rfl, hN4 _ _ ⟨rfl, rfl⟩⟩⟩) ?_
                rintro σ H8 ⟨rfl, rfl⟩
                refine ⟨_, rfl, .inl ⟨rfl, _, SqL.of hL⟩, _, rfl, _, rfl, ?_⟩
                refine iteF (iteF ⟨_, rfl, _, rfl, sz3, fun p hp => ⟨l, _, _, rfl, rfl, by rw [upd_ne (Ne.symm (mem hp))]; exact hL, psz, ?_⟩⟩)
                obtain ⟨g1, g2, g3⟩ := push_tok (t := (sWrong, m, e)) hnl s2 hL ht hp rfl
                exact hN3 _ _ ⟨_, _, rfl, g1, g2, g3⟩
            · have hq := of_decide_eq_false (Bool.eq_false_iff.mpr c3)
              rw [if_neg hq] at hN3
              refine ⟨_, rfl, rfl, _, rfl, ?_⟩
              rw [dec_one, show cod (PySem.Str.ofString " ") = [32] by decide +kernel, dec_sing]
              by_cases h32 : d = 32
              · rw [decide_eq_true h32]
                rw [if_pos (.inl h32)] at hN3
                exact iteF (iteF (hN3 _ _ ⟨ps, v6, rfl, s2, hL, (by show Toks H5 ps (ts ++ []); rw [List.append_nil]; exact ht)⟩))
              rw [decide_eq_false h32]
              refine iteT ⟨_, rfl, rfl, _, rfl, ?_⟩
              rw [dec_one, h10, dec_sing]
              by_cases hnl10 : d = 10
              · rw [decide_eq_true hnl10]
                rw [if_pos (.inr hnl10)] at hN3
                exact iteF (hN3 _ _ ⟨ps, v6, rfl, s2, hL, (by show Toks H5 ps (ts ++ []); rw [List.append_nil]; exact ht)⟩)
              rw [decide_eq_false hnl10]
              have nb : ¬ isBlank d := by
                unfold isBlank
                omega
              rw [if_neg nb] at hN3
              have hde : isEnd d = false := by
                cases e : isEnd d with
                | false => rfl
                | true => exact absurd ((end_iff d).mp e) (by rintro (x | x | x | x); exact nb x; exact h59 x; exact hsg x; exact hq x)
              unfold wordTok at hN3
              rw [stop_next hd hde] at hN3
              have hse := stop_le (p := isEnd) (cs := cod z) (k := m + 1) (by omega)
              have hsm := le_stop (p := isEnd) (cs := cod z) (k := m + 1)
              refine iteT ?_
              refine seq_cut (fun σ H6 => σ = [some (.str z), some (.ref l), some (.int m), some (.int (0 + (i : Int))), some (.str ⟨#[d]⟩), some (.int ((stop isEnd (cod z) (m + 1) : Nat) : Int)), v6] ∧ H6 = H5) (fun N4 hN4 => ?_) ?_
              · refine scan_while (cs := cod z) (p := isEnd) (st := fun e => [some (.str z), some (.ref l), some (.int m), some (.int (0 + (i : Int))), some (.str ⟨#[d]⟩), some (.int (e : Int)), v6]) (by omega) (fun e => rfl) (fun e => rfl) (fun e he' R h1 h2 => ?_) (hN4 _ _ ⟨rfl, rfl⟩)
                refine ⟨_, rfl, _, rfl, z, rfl, small2 hz, _, _, rfl, rfl, _, rfl, ?_⟩
                refine ite2 (fun c => ?_) (fun c => ?_)
                · have c' := of_decide_eq_true c
                  obtain ⟨x, hx⟩ := some_at (cs := cod z) (k := e) (by omega)
                  exact ⟨_, rfl, _, rfl, z, e, x, rfl, rfl, small2 hz, at_one hx, x, endsT, rfl, rfl, _, rfl, h1 x hx⟩
                · have c' := of_decide_eq_false (Bool.eq_false_iff.mpr c)
                  exact h2 (by omega)
              rintro σ H6 ⟨rfl, rfl⟩
              generalize stop isEnd (cod z) (m + 1) = e at hN3 hse hsm
              have hsl : cod (cutS z (some (m : Int)) (some (e : Int))) = slice (cod z) m e := cod_cut_in z (by omega) (by omega)
              have hne : slice (cod z) m e ≠ [] := fun q => by
                have h1 : (slice (cod z) m e).length = 0 := by rw [q]; rfl
                unfold slice at h1
                rw [List.length_take, List.length_drop] at h1
                omega
              have e1 : (slice (cod z) (min e z.length) (min (e + 1) z.length) = [39]) = ((cod z)[e]? = some 39) := by
                unfold slice
                rw [← hl]
                exact propext (one_at (by omega))
              have other : ¬ (slice (cod z) m e = [35] ∧ (cod z)[e]? = some 39) → ∀ (H7 : Hp), Same H6 H7 → ∀ p, H7 p = none → ∀ x : PySem.Str, x = sortP (slice (cod z) m e) →
                  N3 [some (.str z), some (.ref l), some (.int m), some (.int (0 + (i : Int))), some (.str ⟨#[d]⟩), some (.int (e : Int)), v6] (upd (upd H7 p (.tup [.str x, .int m, .int e])) l (.lst (ps.map V.ref ++ [V.ref p]))) := fun hno H7 s7 p hp x hx => by
                rw [if_neg hno] at hN3
                obtain ⟨g1, g2, g3⟩ := push_tok (t := (sortP (slice (cod z) m e), m, e)) (vs := [.str x, .int m, .int e]) hnl (s2.trans s7) (s7 _ _ hL) (ht.mono fun b xs q => s7 _ _ q) hp (by rw [hx]; rfl)
                exact hN3 _ _ ⟨_, v6, rfl, g1, g2, g3⟩
              refine ⟨_, rfl, _, rfl, _, rfl, _, rfl, _, rfl, z, rfl, small2 hz, rfl, _, rfl, ?_⟩
              rw [dec_str, hsl, show cod (PySem.Str.ofString "#") = [35] by decide +kernel]
              by_cases c5 : slice (cod z) m e = [35]
              · rw [decide_eq_true c5]
                refine iteT ⟨_, rfl, _, rfl, _, rfl, _, rfl, _, _, rfl, rfl, _, rfl, z, rfl, small2 hz, rfl, _, rfl, ?_⟩
                rw [dec_str, show ((e : Int) + 1) = ((e + 1 : Nat) : Int) by omega, cod_cut, show cod (PySem.Str.ofString "'") = [39] by decide +kernel]
                by_cases c6 : (cod z)[e]? = some 39
                · rw [decide_eq_true (by rw [e1]; exact c6)]
                  rw [if_pos ⟨c5, c6⟩] at hN3
                  refine iteT ?_
                  refine seq_cut (fun σ H8 => σ = [some (.str z), some (.ref l), some (.int m), some (.int (0 + (i : Int))), some (.str ⟨#[d]⟩), some (.int ((e + 1 : Nat) : Int)), v6] ∧ H8 = H6) (fun N4 hN4 => ⟨_, rfl, _, _, rfl, rfl, hN4 _ _ ⟨rfl, rfl⟩⟩) ?_
                  rintro σ H8 ⟨rfl, rfl⟩
                  refine ⟨_, rfl, .inl ⟨rfl, _, SqL.of hL⟩, _, rfl, _, rfl, sz3, fun p hp => ⟨l, _, _, rfl, rfl, by rw [upd_ne (Ne.symm (mem hp))]; exact hL, psz, ?_⟩⟩
                  obtain ⟨g1, g2, g3⟩ := push_tok (t := (sSign, m, e + 1)) hnl s2 hL ht hp rfl
                  exact hN3 _ _ ⟨_, _, rfl, g1, g2, g3⟩
                · rw [decide_eq_false (by rw [e1]; exact c6)]
                  refine iteF ⟨_, rfl, .inl ⟨rfl, _, SqL.of hL⟩, _, rfl, _, rfl, _, rfl, _, rfl, _, rfl, z, rfl, small2 hz, _, rfl, Nat.le_trans (cut_len ..) hz, by rw [hsl]; exact hne, fun H7 s7 => ?_⟩
                  refine ⟨_, rfl, _, rfl, sz3, fun p hp => ⟨l, _, _, rfl, rfl, ?_, psz, ?_⟩⟩
                  · rw [upd_ne (ne_of_none (s7 _ _ hL) hp)]
                    exact s7 _ _ hL
                  · exact other (fun h => c6 h.2) H7 s7 p hp _ (by rw [hsl])
              · rw [decide_eq_false c5]
                refine iteF (iteF ⟨_, rfl, .inl ⟨rfl, _, SqL.of hL⟩, _, rfl, _, rfl, _, rfl, _, rfl, _, rfl, z, rfl, small2 hz, _, rfl, Nat.le_trans (cut_len ..) hz, by rw [hsl]; exact hne, fun H7 s7 => ?_⟩)
                refine ⟨_, rfl, _, rfl, sz3, fun p hp => ⟨l, _, _, rfl, rfl, ?_, psz, ?_⟩⟩
                · rw [upd_ne (ne_of_none (s7 _ _ hL) hp)]
                  exact s7 _ _ hL
                · exact other (fun h => c5 h.1) H7 s7 p hp _ (by rw [hsl])
      · rintro σ H4 ⟨ps', v6, rfl, s4, hL4, ht4⟩
        refine ⟨_, rfl, _, ps', _, _, _, _, _, rfl, s4, by omega, by omega, hL4, ht4, by rw [List.append_assoc]; exact he, ?_⟩
        have h1 : (stepAt (cod z) m d).1.toList.length ≤ 1 := by
          cases (stepAt (cod z) m d).1 <;> simp
        rw [List.length_append]
        omega
    · rintro σ H2 ⟨m, ps, ts, v3, v4, v5, v6, rfl, s2, hm, him, _⟩
      omega
  · rintro σ H1 ⟨ps, v2, v3, v4, v5, v6, rfl, s1, hL, ht⟩
    exact ⟨_, rfl, q H1 l ps s1 hnl hL ht⟩
end
end K1
set_option Elab.async false
set_option linter.all false
set_option maxRecDepth 100000
set_option maxHeartbeats 4000000
namespace K1
open PySem L2
section
variable {P : Program} {w : World} {K : PySem.W.Frag} {mg : PySem.Str → Option Value} {base : Heap} {aF aS : Addr} {es : Array DictEntry} {n : Nat} {t1 t2 t3 t4 t5 t6 : Tok}

/-! ### _law_signs -/
def signsT : PySem.Str := (" !\"#$&'()*+,-./0123456789:;<=>?@ABCDEFGHIJKLMNOPQRSTUVWXYZ[\\]^_" : PySem.Str) ++ ("`abcdefghijklmnopqrstuvwxyz{|}~\n" : PySem.Str)
theorem signsT_len : signsT.length = 95 := by decide +kernel
def spSigns : Sp := fun vs H Q _ => vs = [] ∧ Q (.str signsT) H
theorem sc__law_signs : FnScope ["first"] [] (defScope s__law_signs) := ⟨rfl, rfl, rfl, by decide +kernel, rfl, by decide +kernel, by decide +kernel⟩
theorem ok__law_signs {f : Addr} {fd : FuncData} (T : TopF K w mg aF aS es n t1 t2 t3 t4 t5 t6) (F : Fun K "_law_signs" "_law_signs" s__law_signs f fd) : FnOk P w K mg base CX0 1 f fd [] spSigns := by
  have sc := sc__law_signs
  refine F.ok sc (fun vs H Q E h => ?_) (fun cdv A outer s H vs Q E hr h => ?_)
  · obtain ⟨rfl, _⟩ := h
    rfl
  obtain ⟨rfl, q⟩ := h
  refine ⟨_, (pss_cons (ps_set (i := 0) sc.nd rfl (Or.inl rfl) pe_str)
    (pss_one (ps_ret (pe_op op_add_str (pv 0) pe_str)))), ?_⟩
  exact ⟨_, rfl, _, _, rfl, rfl, by decide +kernel, q⟩

/-! ### _law_word -/
theorem pick {L : List V} {r : Int} (h0 : 0 ≤ r) (h1 : r < (L.length : Int)) : ∃ v, atI L r = some v ∧ v ∈ L := by
  obtain ⟨j, rfl⟩ : ∃ j : Nat, r = (j : Int) := ⟨r.toNat, by omega⟩
  have hj : j < L.length := by omega
  exact ⟨L[j], atI_nat (List.getElem?_eq_getElem hj), List.getElem_mem hj⟩
theorem pickC {cs : List Nat} {r : Int} (h0 : 0 ≤ r) (h1 : r < (cs.length : Int)) : ∃ c, atI cs r = some c := by
  obtain ⟨j, rfl⟩ : ∃ j : Nat, r = (j : Int) := ⟨r.toNat, by omega⟩
  have hj : j < cs.length := by omega
  exact ⟨cs[j], atI_nat (List.getElem?_eq_getElem hj)⟩
/-- an int from lo to hi; a text of lo to hi signs -/
def isInt (lo hi : Int) : V → Bool
  | .int i => decide (lo ≤ i) && decide (i ≤ hi)
  | _ => false
def isTxt (lo hi : Nat) : V → Bool
  | .str z => decide (lo ≤ z.length) && decide (z.length ≤ hi)
  | _ => false
theorem isInt_of {lo hi : Int} {v : V} (h : isInt lo hi v = true) : ∃ i, v = .int i ∧ lo ≤ i ∧ i ≤ hi := by
  cases v with
  | int i =>
    have h' : (decide (lo ≤ i) && decide (i ≤ hi)) = true := h
    rw [Bool.and_eq_true] at h'
    exact ⟨i, rfl, of_decide_eq_true h'.1, of_decide_eq_true h'.2⟩
  | _ => cases h
theorem isTxt_of {lo hi : Nat} {v : V} (h : isTxt lo hi v = true) : ∃ z, v = .str z ∧ lo ≤ z.length ∧ z.length ≤ hi := by
  cases v with
  | str i =>
    have h' : (decide (lo ≤ i.length) && decide (i.length ≤ hi)) = true := h
    rw [Bool.and_eq_true] at h'
    exact ⟨i, rfl, of_decide_eq_true h'.1, of_decide_eq_true h'.2⟩
  | _ => cases h
theorem pickI {L : List V} {r : Int} {lo hi : Int} (hL : L.all (isInt lo hi) = true) (h0 : 0 ≤ r) (h1 : r < (L.length : Int)) : ∃ i, atI L r = some (.int i) ∧ lo ≤ i ∧ i ≤ hi := by
  obtain ⟨v, e, hv⟩ := pick h0 h1
  obtain ⟨i, rfl, h2, h3⟩ := isInt_of (List.all_eq_true.mp hL v hv)
  exact ⟨i, e, h2, h3⟩
theorem pickT {L : List V} {r : Int} {lo hi : Nat} (hL : L.all (isTxt lo hi) = true) (h0 : 0 ≤ r) (h1 : r < (L.length : Int)) : ∃ z, atI L r = some (.str z) ∧ lo ≤ z.length ∧ z.length ≤ hi := by
  obtain ⟨v, e, hv⟩ := pick h0 h1
  obtain ⟨i, rfl, h2, h3⟩ := isTxt_of (List.all_eq_true.mp hL v hv)
  exact ⟨i, e, h2, h3⟩
theorem app_len (a b : PySem.Str) : (a ++ b).length = a.length + b.length := Array.size_append
theorem join_len (ys : List PySem.Str) : (Txt.join (PySem.Str.ofString "") ys).length = (ys.map (·.length)).sum := by
  show (Builtin.Str.glued _ ys).length = _
  rw [PySem.size_glued]
  show _ + (ys.length - 1) * 0 = _
  rw [Nat.mul_zero, Nat.add_zero]
theorem ones_sum : ∀ (ys : List PySem.Str), (∀ y ∈ ys, y.length = 1) → (ys.map (·.length)).sum = ys.length
  | [], _ => rfl
  | y :: r, h => by
    rw [List.map_cons, List.sum_cons, ones_sum r (fun x hx => h x (List.mem_cons_of_mem _ hx)), h y (List.mem_cons_self ..), List.length_cons]
    omega
/-- what a def that draws hands back: a text of 1 to 200 signs -/
theorem fits2 {k : Nat} (h : k ≤ 1000) : k ≤ sizeLine := by rw [sizeLine_eq]; omega
def spWord : Sp := fun vs H Q _ => ∃ d : Addr, vs = [.ref d] ∧ Ds H d ∧ ∀ (z : PySem.Str) (H' : Hp), 1 ≤ z.length → z.length ≤ 200 → SameBut d H H' → Ds H' d → Q (.str z) H'
theorem SameBut.new {d p : Addr} {H : Hp} {o : HO} (hp : H p = none) : SameBut d H (upd H p o) := .of (same_upd hp)
theorem Ds.ne {d p : Addr} {H : Hp} (h : Ds H d) (hp : H p = none) : p ≠ d := fun q => by
  obtain ⟨_, e⟩ := h
  rw [q, e] at hp
  cases hp
theorem Ds.upd {d p : Addr} {H : Hp} {o : HO} (h : Ds H d) (hp : p ≠ d) : Ds (upd H p o) d := by
  obtain ⟨x, e⟩ := h
  exact ⟨x, by rw [upd_ne (Ne.symm hp)]; exact e⟩
/-- ''.join([T[_law_take(draws, m)] for k in range(size)]) -/
theorem join_read {T : PySem.Str} {m : Int} {σ : L2.St} {H : Hp} {Q : VK} {d : Addr} {sz : Int} {id_ is ik : Nat} (hm : m = (T.length : Int)) (hT : 0 < T.length) (hT2 : T.length ≤ 2000) (hd : σ[id_]? = some (some (.ref d))) (hs : σ[is]? = some (some (.int sz))) (hk : ik < σ.length) (hkd : ik ≠ id_)
    (h1 : 1 ≤ sz) (h2 : sz ≤ 100) (D0 : Ds H d)
    (q : ∀ (z : PySem.Str) (H' : Hp), 1 ≤ z.length → z.length ≤ 100 → SameBut d H H' → Ds H' d → Q (.str z) H') :
    tBM K "str" (fun x xs H Q => ∃ (a : PySem.Str) (p : Addr), ∃ ys : List PySem.Str, x = .str a ∧ xs = [.ref p] ∧ (SqL K H p (ys.map V.str) ∨ SqT K H p (ys.map V.str)) ∧ (ys.map (·.length)).sum + ys.length * a.length ≤ 16777216 ∧ Q (.str (Txt.join a ys)) H)
      (tC (.str (PySem.Str.ofString ""))) (tCons (tLc (iRng1 (tCons (tVar is) tNil)) (gName ik) tYes (tOp rIxS (tC (.str T)) (tCall spTake [] E0 (tCons (tVar id_) (tCons (tC (.int m)) tNil)))) [ik]) tNil) σ H Q := by
  refine ⟨rfl, _, hs, sz, rfl, by omega, by omega, fun D new => lc_range (lo := 0) (Pv := fun k H' => ∃ ys : List PySem.Str, H' D = some (.lst (ys.map V.str)) ∧ ys.length = k ∧ (∀ y ∈ ys, y.length = 1) ∧ SameBut d H H' ∧ Ds H' d)
    ⟨[], upd_same, rfl, fun y hy => (nomatch hy), .new new, D0.upd (D0.ne new)⟩ ?_ ?_⟩
  · rintro k H' hk' ⟨ys, e, hl, ho, sb, D1⟩
    refine ⟨?_, ?_⟩
    · show ((σ.set ik none).set ik (some _)).set ik none = σ.set ik none
      rw [List.set_set, List.set_set]
    · unfold tYes
      dsimp only
      rw [if_pos rfl]
      refine ⟨.ref d, ?_, d, m, rfl, D1, by omega, fun r H2 r0 r1 s2 D2 => ?_⟩
      · show ((σ.set ik none).set ik (some _))[id_]? = _
        rw [List.set_set, List.getElem?_set_ne hkd]
        exact hd
      · obtain ⟨c, hc⟩ := pickC (cs := cod T) r0 (by rw [cod_len]; omega)
        have hDd : D ≠ d := D0.ne new
        have eD : H2 D = some (.lst (ys.map V.str)) := s2 _ _ hDd e
        refine ⟨T, r, c, rfl, rfl, small2 hT2, hc, _, eD, ?_, ys ++ [⟨#[c]⟩], ?_, by rw [List.length_append, List.length_singleton, hl], fun y hy => ?_, ?_, D2.upd hDd⟩
        · rw [List.length_map, sizeLine_eq]
          omega
        · rw [upd_same, List.map_append]
          rfl
        · rcases List.mem_append.mp hy with hy | hy
          · exact ho y hy
          · rw [List.mem_singleton.mp hy]
            rfl
        · intro b o hb eb
          rw [upd_ne (ne_of_none eb new)]
          exact s2 _ _ hb (sb _ _ hb eb)
  · rintro H' ⟨ys, e, hl, ho, sb, D1⟩
    have hsum := ones_sum ys ho
    have e0 : (PySem.Str.ofString "").length = 0 := by decide +kernel
    refine ⟨_, D, ys, rfl, rfl, .inl (SqL.of e), ?_, q _ H' ?_ ?_ sb D1⟩
    · rw [hsum, e0]
      omega
    · rw [join_len, hsum]
      omega
    · rw [join_len, hsum]
      omega
theorem sc__law_word : FnScope ["draws", "kind", "size", "k", "words"] ["draws"] (defScope s__law_word) := ⟨rfl, rfl, rfl, by decide +kernel, rfl, by decide +kernel, by decide +kernel⟩
theorem ok__law_word {f : Addr} {fd : FuncData} (T : TopF K w mg aF aS es n t1 t2 t3 t4 t5 t6) (F : Fun K "_law_word" "_law_word" s__law_word f fd) (C__law_take : Cal P w K mg base "_law_take" 1 ["draws", "limit"] spTake) : FnOk P w K mg base CX0 2 f fd ["draws"] spWord := by
  have sc := sc__law_word
  refine F.ok sc (fun vs H Q E h => ?_) (fun cdv A outer s H vs Q E hr h => ?_)
  · obtain ⟨d, rfl, _⟩ := h
    rfl
  obtain ⟨d, rfl, D0, q⟩ := h
  refine ⟨_, (pss_cons (ps_set (i := 1) sc.nd rfl (Or.inl rfl) (pe_cal C__law_take (hr.mono (by decide)) (by rfl) pass0 (pa_cons (pv 0) (pa_cons pe_int pa_nil))))
    (pss_cons (ps_if (pt_cmpR op_lt (pv 1) pe_int (nomark _)) (pss_cons (ps_set (i := 2) sc.nd rfl (Or.inl rfl) (pe_ix ix_tup (pe_tup (pa_cons pe_int (pa_cons pe_int (pa_cons pe_int (pa_cons pe_int (pa_cons pe_int (pa_cons pe_int pa_nil))))))) (pe_cal C__law_take (hr.mono (by decide)) (by rfl) pass0 (pa_cons (pv 0) (pa_cons pe_int pa_nil))) (fun _ _ => rfl)))
    (pss_one (ps_ret (pe_bm PySem.F.plainAttrs_str PySem.F.slot_str_join PySem.F.type_str_join mt_join pe_str (pa_cons (pe_lc (own := [("k", 3)]) rfl sc.nd (pi_range1 (by rfl) T.n_range (pa_cons (pv 2) pa_nil)) (blkOk_by (own := [("k", 3)]) (N := ["draws", "kind", "size", "k", "words"]) (sc := defScope s__law_word) (by decide +kernel)) (fun _ _ _ _ _ => (pg_name (i := 3) sc.nd rfl (.inl rfl))) (fun _ _ _ _ _ => pts_nil) (fun _ _ _ _ _ => (pe_ix ix_str pe_str (pe_cal C__law_take (hr.mono (by decide)) (by rfl) pass0 (pa_cons (pv 0) (pa_cons pe_int pa_nil))) (fun _ _ => rfl)))) pa_nil))))) pss_nil)
    (pss_cons (ps_if (pt_cmpR op_lt (pv 1) pe_int (nomark _)) (pss_cons (ps_set (i := 2) sc.nd rfl (Or.inl rfl) (pe_ix ix_tup (pe_tup (pa_cons pe_int (pa_cons pe_int (pa_cons pe_int (pa_cons pe_int (pa_cons pe_int pa_nil)))))) (pe_cal C__law_take (hr.mono (by decide)) (by rfl) pass0 (pa_cons (pv 0) (pa_cons pe_int pa_nil))) (fun _ _ => rfl)))
    (pss_one (ps_ret (pe_op op_add_str (pe_ix ix_tup (pe_tup (pa_cons pe_str (pa_cons pe_str pa_nil))) (pe_cal C__law_take (hr.mono (by decide)) (by rfl) pass0 (pa_cons (pv 0) (pa_cons pe_int pa_nil))) (fun _ _ => rfl)) (pe_bm PySem.F.plainAttrs_str PySem.F.slot_str_join PySem.F.type_str_join mt_join pe_str (pa_cons (pe_lc (own := [("k", 3)]) rfl sc.nd (pi_range1 (by rfl) T.n_range (pa_cons (pv 2) pa_nil)) (blkOk_by (own := [("k", 3)]) (N := ["draws", "kind", "size", "k", "words"]) (sc := defScope s__law_word) (by decide +kernel)) (fun _ _ _ _ _ => (pg_name (i := 3) sc.nd rfl (.inl rfl))) (fun _ _ _ _ _ => pts_nil) (fun _ _ _ _ _ => (pe_ix ix_str pe_str (pe_cal C__law_take (hr.mono (by decide)) (by rfl) pass0 (pa_cons (pv 0) (pa_cons pe_int pa_nil))) (fun _ _ => rfl)))) pa_nil)))))) pss_nil)
    (pss_cons (ps_if (pt_cmpR op_eq (pv 1) pe_int (nomark _)) (pss_cons (ps_set (i := 2) sc.nd rfl (Or.inl rfl) (pe_ix ix_tup (pe_tup (pa_cons pe_int (pa_cons pe_int (pa_cons pe_int (pa_cons pe_int (pa_cons pe_int pa_nil)))))) (pe_cal C__law_take (hr.mono (by decide)) (by rfl) pass0 (pa_cons (pv 0) (pa_cons pe_int pa_nil))) (fun _ _ => rfl)))
    (pss_one (ps_ret (pe_op op_add_str (pe_op op_add_str pe_str (pe_op op_mul_str (pe_ix ix_str pe_str (pe_cal C__law_take (hr.mono (by decide)) (by rfl) pass0 (pa_cons (pv 0) (pa_cons pe_int pa_nil))) (fun _ _ => rfl)) (pv 2))) (pe_ix ix_tup (pe_tup (pa_cons pe_str (pa_cons pe_str (pa_cons pe_str pa_nil)))) (pe_cal C__law_take (hr.mono (by decide)) (by rfl) pass0 (pa_cons (pv 0) (pa_cons pe_int pa_nil))) (fun _ _ => rfl)))))) pss_nil)
    (pss_cons (ps_set (i := 4) sc.nd rfl (Or.inl rfl) (pe_tup (pa_cons pe_str (pa_cons pe_str (pa_cons pe_str (pa_cons pe_str (pa_cons pe_str (pa_cons pe_str (pa_cons pe_str (pa_cons pe_str (pa_cons pe_str (pa_cons pe_str (pa_cons pe_str (pa_cons pe_str (pa_cons pe_str (pa_cons pe_str (pa_cons pe_str (pa_cons pe_str (pa_cons pe_str (pa_cons pe_str (pa_cons pe_str (pa_cons pe_str (pa_cons pe_str (pa_cons pe_str (pa_cons pe_str (pa_cons pe_str (pa_cons pe_str (pa_cons pe_str pa_nil))))))))))))))))))))))))))))
    (pss_one (ps_ret (pe_ix ix_tup (pv 4) (pe_cal C__law_take (hr.mono (by decide)) (by rfl) pass0 (pa_cons (pv 0) (pa_cons (pe_callB call_len_seq (by rfl) T.n_len PySem.boot_len (pa_cons (pv 4) pa_nil)) pa_nil))) (fun _ _ => rfl))))))))), ?_⟩
  have fits : ∀ k : Nat, k ≤ 30 → k ≤ sizeLine := fun k h => by rw [sizeLine_eq]; omega
  refine seq_cut (fun σ H1 => ∃ r : Int, σ = [some (.ref d), some (.int r), none, none, none] ∧ SameBut d H H1 ∧ Ds H1 d) (fun N hN => ⟨_, rfl, d, 12, rfl, D0, by decide, fun r H1 r0 r1 s1 D1 => hN _ _ ⟨r, rfl, s1, D1⟩⟩) ?_
  rintro σ H1 ⟨r, rfl, s1, D1⟩
  -- kind < 2
  refine seq_cut (fun σ H2 => σ = [some (.ref d), some (.int r), none, none, none] ∧ H2 = H1) (fun N hN => ?_) ?_
  · refine ⟨_, rfl, _, _, rfl, rfl, _, rfl, ?_⟩
    refine ite2 (fun _ => ?_) (fun _ => hN _ _ ⟨rfl, rfl⟩)
    refine ⟨fits 6 (by decide), fun p hp => ⟨_, rfl, d, 6, rfl, D1.upd (D1.ne hp), by decide, fun x H2 x0 x1 s2 D2 => ?_⟩⟩
    obtain ⟨sz, e, z0, z1⟩ := pickI (L := [.int 1, .int 2, .int 20, .int 21, .int 3, .int 19]) (lo := 1) (hi := 31) (by decide) x0 x1
    refine ⟨p, _, x, _, rfl, rfl, SqT.of (s2 _ _ (D1.ne hp) upd_same), e, ?_⟩
    refine join_read (by decide +kernel) (by decide +kernel) (by decide +kernel) rfl rfl (by show 3 < 5; decide) (by decide) z0 (by omega) D2 fun z H3 l1 l2 s3 D3 => q z H3 l1 (by omega) (s1.trans ((SameBut.new hp).trans (s2.trans s3))) D3
  rintro σ H2 ⟨rfl, rfl⟩
  -- kind < 4
  refine seq_cut (fun σ H3 => σ = [some (.ref d), some (.int r), none, none, none] ∧ H3 = H2) (fun N hN => ?_) ?_
  · refine ⟨_, rfl, _, _, rfl, rfl, _, rfl, ?_⟩
    refine ite2 (fun _ => ?_) (fun _ => hN _ _ ⟨rfl, rfl⟩)
    refine ⟨fits 5 (by decide), fun p hp => ⟨_, rfl, d, 5, rfl, D1.upd (D1.ne hp), by decide, fun x H3 x0 x1 s2 D2 => ?_⟩⟩
    obtain ⟨sz, e, z0, z1⟩ := pickI (L := [.int 1, .int 2, .int 29, .int 30, .int 31]) (lo := 1) (hi := 31) (by decide) x0 x1
    refine ⟨p, _, x, _, rfl, rfl, SqT.of (s2 _ _ (D1.ne hp) upd_same), e, ?_⟩
    refine ⟨fits 2 (by decide), fun p2 hp2 => ⟨_, rfl, d, 2, rfl, D2.upd (D2.ne hp2), by decide, fun y H4 y0 y1 s4 D4 => ?_⟩⟩
    obtain ⟨t, et, t0, t9⟩ := pickT (L := [.str (PySem.Str.ofString ""), .str (PySem.Str.ofString "-")]) (lo := 0) (hi := 1) (by decide +kernel) y0 y1
    refine ⟨p2, _, y, _, rfl, rfl, SqT.of (s4 _ _ (D2.ne hp2) upd_same), et, ?_⟩
    refine join_read (by decide +kernel) (by decide +kernel) (by decide +kernel) rfl rfl (by show 3 < 5; decide) (by decide) z0 (by omega) D4 fun z H5 l1 l2 s5 D5 => ?_
    refine ⟨_, _, rfl, rfl, fits2 (by omega), q _ H5 ?_ ?_ (s1.trans ((SameBut.new hp).trans (s2.trans ((SameBut.new hp2).trans (s4.trans s5))))) D5⟩
    · rw [app_len]
      omega
    · rw [app_len]
      omega
  rintro σ H3 ⟨rfl, rfl⟩
  -- kind == 4
  refine seq_cut (fun σ H4 => σ = [some (.ref d), some (.int r), none, none, none] ∧ H4 = H3) (fun N hN => ?_) ?_
  · refine ⟨_, rfl, rfl, _, rfl, ?_⟩
    refine ite2 (fun _ => ?_) (fun _ => hN _ _ ⟨rfl, rfl⟩)
    refine ⟨fits 5 (by decide), fun p hp => ⟨_, rfl, d, 5, rfl, D1.upd (D1.ne hp), by decide, fun x H4 x0 x1 s2 D2 => ?_⟩⟩
    obtain ⟨sz, e, z0, z1⟩ := pickI (L := [.int 0, .int 1, .int 99, .int 100, .int 101]) (lo := 0) (hi := 101) (by decide) x0 x1
    refine ⟨p, _, x, _, rfl, rfl, SqT.of (s2 _ _ (D1.ne hp) upd_same), e, ?_⟩
    refine ⟨_, rfl, d, 7, rfl, D2, by decide, fun y H5 y0 y1 s5 D5 => ?_⟩
    obtain ⟨c, hc⟩ := pickC (cs := cod (PySem.Str.ofString "ab ;('#")) y0 (by rw [show (cod (PySem.Str.ofString "ab ;('#")).length = 7 by decide +kernel]; exact y1)
    refine ⟨_, y, c, rfl, rfl, by decide +kernel, hc, _, rfl, _, _, rfl, rfl, (by show (1 : Nat) ≤ 1000; decide), by omega, by omega, ?_⟩
    have ml := mul_len ⟨#[c]⟩ sz
    have ml2 : (Txt.mul ⟨#[c]⟩ sz).length ≤ 101 := Nat.le_trans ml (by show 1 * sz.toNat ≤ 101; omega)
    have l1 : (PySem.Str.ofString "\"").length = 1 := by decide +kernel
    refine ⟨_, _, rfl, rfl, fits2 (by omega), ?_⟩
    refine ⟨fits 3 (by decide), fun p2 hp2 => ⟨_, rfl, d, 3, rfl, D5.upd (D5.ne hp2), by decide, fun y2 H6 y3 y4 s6 D6 => ?_⟩⟩
    obtain ⟨t, et, t0, t9⟩ := pickT (L := [.str (PySem.Str.ofString "\""), .str (PySem.Str.ofString ""), .str (PySem.Str.ofString "\"\"")]) (lo := 0) (hi := 2) (by decide +kernel) y3 y4
    refine ⟨p2, _, y2, _, rfl, rfl, SqT.of (s6 _ _ (D5.ne hp2) upd_same), et, ?_⟩
    refine ⟨_, _, rfl, rfl, fits2 (by rw [app_len]; omega), q _ H6 ?_ ?_ (s1.trans ((SameBut.new hp).trans (s2.trans (s5.trans ((SameBut.new hp2).trans s6))))) D6⟩
    · rw [app_len, app_len]
      omega
    · rw [app_len, app_len]
      omega
  rintro σ H4 ⟨rfl, rfl⟩
  refine ⟨fits 26 (by decide), fun p hp => ⟨_, rfl, _, rfl, _, rfl, p, _, rfl, .inr (SqT.of upd_same), d, _, rfl, D1.upd (D1.ne hp), (by show (0 : Int) < 26; decide), fun x H5 x0 x1 s5 D5 => ?_⟩⟩
  have eP := s5 _ _ (D1.ne hp) upd_same
  obtain ⟨t, et, t0, t9⟩ := pickT (lo := 1) (hi := 5) (L := ["...", "..", "....", "_", "__", "#t", "#f", "#", "#'", "##'", "a#", "#a'", "-", "--", "-1", "-a", "+1", "-0", "0", "00", "01", "#'#'", "'", "#t'", "T", "a,b"].map fun s => V.str (PySem.Str.ofString s)) (by decide +kernel) x0 x1
  exact ⟨p, _, x, _, rfl, rfl, SqT.of eP, et, q _ H5 t0 (by omega) (s1.trans ((SameBut.new hp).trans s5)) D5⟩

/-! ### _law_text -/
def spText : Sp := fun vs H Q _ => ∃ d : Addr, vs = [.ref d] ∧ Ds H d ∧ ∀ (z : PySem.Str) (H' : Hp), z.length ≤ 1000 → SameBut d H H' → Ds H' d → Q (.str z) H'
theorem sc__law_text : FnScope ["draws", "size", "kind", "text"] ["draws"] (defScope s__law_text) := ⟨rfl, rfl, rfl, by decide +kernel, rfl, by decide +kernel, by decide +kernel⟩
theorem ok__law_text {f : Addr} {fd : FuncData} (T : TopF K w mg aF aS es n t1 t2 t3 t4 t5 t6) (F : Fun K "_law_text" "_law_text" s__law_text f fd) (C__law_take : Cal P w K mg base "_law_take" 1 ["draws", "limit"] spTake)
    (C__law_signs : Cal P w K mg base "_law_signs" 1 [] spSigns) (C__law_word : Cal P w K mg base "_law_word" 2 ["draws"] spWord) : FnOk P w K mg base CX0 3 f fd ["draws"] spText := by
  have sc := sc__law_text
  refine F.ok sc (fun vs H Q E h => ?_) (fun cdv A outer s H vs Q E hr h => ?_)
  · obtain ⟨d, rfl, _⟩ := h
    rfl
  obtain ⟨d, rfl, D0, q⟩ := h
  refine ⟨_, (pss_cons (ps_set (i := 1) sc.nd rfl (Or.inl rfl) (pe_cal C__law_take (hr.mono (by decide)) (by rfl) pass0 (pa_cons (pv 0) (pa_cons pe_int pa_nil))))
    (pss_cons (ps_if (pt_cmpR op_eq (pe_cal C__law_take (hr.mono (by decide)) (by rfl) pass0 (pa_cons (pv 0) (pa_cons pe_int pa_nil))) pe_int (nomark _)) (pss_one (ps_set (i := 1) sc.nd rfl (Or.inl rfl) (pe_cal C__law_take (hr.mono (by decide)) (by rfl) pass0 (pa_cons (pv 0) (pa_cons pe_int pa_nil))))) pss_nil)
    (pss_cons (ps_set (i := 2) sc.nd rfl (Or.inl rfl) (pe_cal C__law_take (hr.mono (by decide)) (by rfl) pass0 (pa_cons (pv 0) (pa_cons pe_int pa_nil))))
    (pss_cons (ps_set (i := 3) sc.nd rfl (Or.inl rfl) pe_str)
    (pss_cons (ps_while PassesOwn.never (pt_cmpR op_lt (pe_callB call_len_str (by rfl) T.n_len PySem.boot_len (pa_cons (pv 3) pa_nil)) (pv 1) (nomark _)) (pss_one (ps_if (pt_cmpR op_eq (pv 2) pe_int (nomark _)) (pss_one (ps_set (i := 3) sc.nd rfl (Or.inl rfl) (pe_op op_add_str (pv 3) (pe_ix ix_str (pe_cal0 C__law_signs (hr.mono (by decide)) (by rfl) pass0) (pe_cal C__law_take (hr.mono (by decide)) (by rfl) pass0 (pa_cons (pv 0) (pa_cons (pe_callB call_len_str (by rfl) T.n_len PySem.boot_len (pa_cons (pe_cal0 C__law_signs (hr.mono (by decide)) (by rfl) pass0) pa_nil)) pa_nil))) (fun _ _ => rfl))))) (pss_one (ps_if (pt_cmpR op_eq (pv 2) pe_int (nomark _)) (pss_one (ps_set (i := 3) sc.nd rfl (Or.inl rfl) (pe_op op_add_str (pv 3) (pe_ix ix_str pe_str (pe_cal C__law_take (hr.mono (by decide)) (by rfl) pass0 (pa_cons (pv 0) (pa_cons pe_int pa_nil))) (fun _ _ => rfl))))) (pss_one (ps_set (i := 3) sc.nd rfl (Or.inl rfl) (pe_op op_add_str (pe_op op_add_str (pv 3) (pe_cal C__law_word (hr.mono (by decide)) (by rfl) pass0 (pa_cons (pv 0) pa_nil))) (pe_ix ix_tup (pe_tup (pa_cons pe_str (pa_cons pe_str (pa_cons pe_str (pa_cons pe_str (pa_cons pe_str (pa_cons pe_str (pa_cons pe_str (pa_cons pe_str pa_nil))))))))) (pe_cal C__law_take (hr.mono (by decide)) (by rfl) pass0 (pa_cons (pv 0) (pa_cons pe_int pa_nil))) (fun _ _ => rfl))))))))))
    (pss_one (ps_ret (pv 3)))))))), ?_⟩
  have fits : ∀ k : Nat, k ≤ 30 → k ≤ sizeLine := fun k h => by rw [sizeLine_eq]; omega
  refine seq_cut (fun σ H1 => ∃ r : Int, σ = [some (.ref d), some (.int r), none, none] ∧ r ≤ 400 ∧ SameBut d H H1 ∧ Ds H1 d) (fun N hN => ⟨_, rfl, d, 61, rfl, D0, by decide, fun r H1 r0 r1 s1 D1 => hN _ _ ⟨r, rfl, by omega, s1, D1⟩⟩) ?_
  rintro σ H1 ⟨r, rfl, hr4, s1, D1⟩
  refine seq_cut (fun σ H1 => ∃ r : Int, σ = [some (.ref d), some (.int r), none, none] ∧ r ≤ 400 ∧ SameBut d H H1 ∧ Ds H1 d) (fun N hN => ?_) ?_
  · refine ⟨_, rfl, d, 8, rfl, D1, by decide, fun x H2 x0 x1 s2 D2 => ⟨rfl, _, rfl, ?_⟩⟩
    refine ite2 (fun _ => ?_) (fun _ => hN _ _ ⟨r, rfl, hr4, s1.trans s2, D2⟩)
    exact ⟨_, rfl, d, 401, rfl, D2, by decide, fun y H3 y0 y1 s3 D3 => hN _ _ ⟨y, rfl, by omega, s1.trans (s2.trans s3), D3⟩⟩
  rintro σ H2 ⟨r, rfl, hr5, s2, D2⟩
  refine seq_cut (fun σ H3 => ∃ k : Int, σ = [some (.ref d), some (.int r), some (.int k), none] ∧ SameBut d H H3 ∧ Ds H3 d) (fun N hN => ⟨_, rfl, d, 3, rfl, D2, by decide, fun k H3 k0 k1 s3 D3 => hN _ _ ⟨k, rfl, s2.trans s3, D3⟩⟩) ?_
  rintro σ H3 ⟨k, rfl, s3, D3⟩
  refine seq_cut (fun σ H4 => σ = [some (.ref d), some (.int r), some (.int k), some (.str (PySem.Str.ofString ""))] ∧ H4 = H3) (fun N hN => hN _ _ ⟨rfl, rfl⟩) ?_
  rintro σ H4 ⟨rfl, rfl⟩
  refine seq_cut (fun σ H5 => ∃ z : PySem.Str, σ = [some (.ref d), some (.int r), some (.int k), some (.str z)] ∧ z.length ≤ 1000 ∧ SameBut d H H5 ∧ Ds H5 d) (fun N hN => ?_) ?_
  · refine while_ends (fun m σ H5 => ∃ z : PySem.Str, σ = [some (.ref d), some (.int r), some (.int k), some (.str z)] ∧ z.length ≤ 1000 ∧ SameBut d H H5 ∧ Ds H5 d ∧ m = (r - z.length).toNat)
      (fun σ H5 => ∃ z : PySem.Str, σ = [some (.ref d), some (.int r), some (.int k), some (.str z)] ∧ z.length ≤ 1000 ∧ SameBut d H H5 ∧ Ds H5 d) ⟨_, _, rfl, by decide +kernel, s3, D3, rfl⟩ ?_ hN
    rintro m σ H5 ⟨z, rfl, hz, s5, D5, rfl⟩ B hB
    refine ⟨_, rfl, z, rfl, small2 (by omega), _, rfl, _, _, rfl, rfl, _, rfl, ?_⟩
    refine ite2 (fun c => ?_) (fun c => hB _ _ ⟨z, rfl, hz, s5, D5⟩)
    have c' := of_decide_eq_true c
    refine ⟨fun σ' H' => ∃ z' : PySem.Str, σ' = [some (.ref d), some (.int r), some (.int k), some (.str z')] ∧ z'.length ≤ 1000 ∧ z.length < z'.length ∧ SameBut d H H' ∧ Ds H' d, fun σ' H' h => ?_, ?_⟩
    · obtain ⟨z', e, l1, l2, h1, h2⟩ := h
      exact ⟨(r - z'.length).toNat, by omega, z', e, l1, h1, h2, rfl⟩
    refine ⟨_, rfl, rfl, _, rfl, ?_⟩
    refine ite2 (fun _ => ?_) (fun _ => ?_)
    · -- one of the signs
      refine ⟨_, rfl, rfl, _, rfl, rfl, signsT, rfl, small2 (by rw [signsT_len]; decide), d, _, rfl, D5, by rw [signsT_len]; decide, fun x H6 x0 x1 s6 D6 => ?_⟩
      obtain ⟨c, hc⟩ := pickC (cs := cod signsT) x0 (by rw [cod_len]; exact x1)
      refine ⟨signsT, x, c, rfl, rfl, small2 (by rw [signsT_len]; decide), hc, _, _, rfl, rfl, fits2 (by show z.length + 1 ≤ 1000; omega), _, rfl, ?_, ?_, s5.trans s6, D6⟩
      · rw [app_len]
        show z.length + 1 ≤ 1000
        omega
      · rw [app_len]
        show z.length < z.length + 1
        omega
    refine ⟨_, rfl, rfl, _, rfl, ?_⟩
    refine ite2 (fun _ => ?_) (fun _ => ?_)
    · refine ⟨_, rfl, _, rfl, d, 16, rfl, D5, by decide, fun x H6 x0 x1 s6 D6 => ?_⟩
      obtain ⟨c, hc⟩ := pickC (cs := cod (PySem.Str.ofString "()'\"; \n#tf-01a._")) x0 (by rw [show (cod (PySem.Str.ofString "()'\"; \n#tf-01a._")).length = 16 by decide +kernel]; exact x1)
      refine ⟨_, x, c, rfl, rfl, by decide +kernel, hc, _, _, rfl, rfl, fits2 (by show z.length + 1 ≤ 1000; omega), _, rfl, ?_, ?_, s5.trans s6, D6⟩
      · rw [app_len]
        show z.length + 1 ≤ 1000
        omega
      · rw [app_len]
        show z.length < z.length + 1
        omega
    · refine ⟨_, rfl, _, rfl, d, rfl, D5, fun y H6 y0 y1 s6 D6 => ⟨_, _, rfl, rfl, fits2 (by omega), ?_⟩⟩
      refine ⟨fits 8 (by decide), fun p hp => ⟨_, rfl, d, 8, rfl, D6.upd (D6.ne hp), by decide, fun x H7 x0 x1 s7 D7 => ?_⟩⟩
      have eP := s7 _ _ (D6.ne hp) upd_same
      obtain ⟨t, et, t0, t9⟩ := pickT (lo := 0) (hi := 1) (L := [" ", "", "\n", "(", ")", "'", ";", " "].map fun s => V.str (PySem.Str.ofString s)) (by decide +kernel) x0 x1
      refine ⟨p, _, x, _, rfl, rfl, SqT.of eP, et, _, _, rfl, rfl, fits2 (by rw [app_len]; omega), _, rfl, ?_, ?_, s5.trans (s6.trans ((SameBut.new hp).trans s7)), D7⟩
      · rw [app_len, app_len]
        omega
      · rw [app_len, app_len]
        omega
  rintro σ H5 ⟨z, rfl, hz, s5, D5⟩
  exact ⟨_, rfl, q z H5 hz s5 D5⟩
end
end K1
set_option Elab.async false
set_option linter.all false
set_option maxRecDepth 100000
set_option maxHeartbeats 4000000
namespace K1
open PySem L2
section
variable {P : Program} {w : World} {K : PySem.W.Frag} {mg : PySem.Str → Option Value} {base : Heap} {aF aS : Addr} {es : Array DictEntry} {n : Nat} {t1 t2 t3 t4 t5 t6 : Tok}

/-! ### _law_same -/
def Leaf (x y : V) : Prop := (∃ b, x = .bl b ∧ y = .bl b) ∨ (∃ i, x = .int i ∧ y = .int i) ∨ (∃ s, x = .str s ∧ y = .str s)
def Alike : Nat → Hp → V → V → Prop
  | 0, _, _, _ => False
  | k + 1, H, x, y => Leaf x y ∨ ∃ (p q : Addr) (xs ys : List V), x = .ref p ∧ y = .ref q ∧ ((H p = some (.tup xs) ∧ H q = some (.tup ys)) ∨ (H p = some (.lst xs) ∧ H q = some (.lst ys))) ∧ xs.length = ys.length ∧ xs.length ≤ 3000 ∧
      ∀ (i : Nat) x y, xs[i]? = some x → ys[i]? = some y → Alike k H x y
theorem Alike.mono : ∀ {k : Nat} {H H' : Hp} {x y : V}, Same H H' → Alike k H x y → Alike k H' x y
  | 0, _, _, _, _, _, h => h
  | k + 1, H, H', x, y, s, h => by
    rcases h with h | ⟨p, q, xs, ys, e1, e2, h3, h4, h5, h6⟩
    · exact .inl h
    · refine .inr ⟨p, q, xs, ys, e1, e2, ?_, h4, h5, fun i x y hx hy => Alike.mono s (h6 i x y hx hy)⟩
      rcases h3 with ⟨a, b⟩ | ⟨a, b⟩
      · exact .inl ⟨s _ _ a, s _ _ b⟩
      · exact .inr ⟨s _ _ a, s _ _ b⟩
def spSame (k : Nat) : Sp := fun vs H Q _ => ∃ x y : V, vs = [x, y] ∧ Alike k H x y ∧ ∀ H', Same H H' → Q (.bl true) H'
theorem sc__law_same : FnScope ["found", "due", "k"] ["found", "due"] (defScope s__law_same) := ⟨rfl, rfl, rfl, by decide +kernel, rfl, by decide +kernel, by decide +kernel⟩
theorem dec_refl (x : V) : decide (x = x) = true := decide_eq_true rfl
theorem rep_snoc (i : Nat) : List.replicate i (V.bl true) ++ [V.bl true] = List.replicate (i + 1) (V.bl true) := by
  rw [List.replicate_succ']
theorem ok__law_same {k : Nat} {f : Addr} {fd : FuncData} (T : TopF K w mg aF aS es n t1 t2 t3 t4 t5 t6) (F : Fun K "_law_same" "_law_same" s__law_same f fd) (C__law_same : Cal P w K mg base "_law_same" k ["found", "due"] (spSame k)) : FnOk P w K mg base CX0 (k + 1) f fd ["found", "due"] (spSame (k + 1)) := by
  have sc := sc__law_same
  refine F.ok sc (fun vs H Q E h => ?_) (fun cdv A outer s H vs Q E hr h => ?_)
  · obtain ⟨x, y, rfl, _⟩ := h
    rfl
  obtain ⟨x, y, rfl, h, q⟩ := h
  refine ⟨_, (pss_cons (ps_if (pt_cmp (pc_isN (pv 1))) (pss_one (ps_ret (pe_cmp (pc_isN (pv 0))))) pss_nil)
    (pss_cons (ps_if (pt_val (pe_callB call_isi (by rfl) T.n_isinstance (by decide +kernel) (pa_cons (pv 1) (pa_cons (pe_bltn (v := .ty "bool") (by rfl) T.n_bool (by decide +kernel) rfl) pa_nil)))) (pss_one (ps_ret (pe_and (pe_callB call_isi (by rfl) T.n_isinstance (by decide +kernel) (pa_cons (pv 0) (pa_cons (pe_bltn (v := .ty "bool") (by rfl) T.n_bool (by decide +kernel) rfl) pa_nil))) (pe_one (pe_cmpR op_eq (pv 0) (pv 1) (nomark _)))))) pss_nil)
    (pss_cons (ps_if (pt_val (pe_callB call_isi (by rfl) T.n_isinstance (by decide +kernel) (pa_cons (pv 1) (pa_cons (pe_bltn (v := .ty "int") (by rfl) T.n_int (by decide +kernel) rfl) pa_nil)))) (pss_one (ps_ret (pe_and (pe_callB call_isi (by rfl) T.n_isinstance (by decide +kernel) (pa_cons (pv 0) (pa_cons (pe_bltn (v := .ty "int") (by rfl) T.n_int (by decide +kernel) rfl) pa_nil))) (pe_and (pe_not (pe_callB call_isi (by rfl) T.n_isinstance (by decide +kernel) (pa_cons (pv 0) (pa_cons (pe_bltn (v := .ty "bool") (by rfl) T.n_bool (by decide +kernel) rfl) pa_nil)))) (pe_one (pe_cmpR op_eq (pv 0) (pv 1) (nomark _))))))) pss_nil)
    (pss_cons (ps_if (pt_val (pe_callB call_isi (by rfl) T.n_isinstance (by decide +kernel) (pa_cons (pv 1) (pa_cons (pe_bltn (v := .ty "str") (by rfl) T.n_str (by decide +kernel) rfl) pa_nil)))) (pss_one (ps_ret (pe_and (pe_callB call_isi (by rfl) T.n_isinstance (by decide +kernel) (pa_cons (pv 0) (pa_cons (pe_bltn (v := .ty "str") (by rfl) T.n_str (by decide +kernel) rfl) pa_nil))) (pe_one (pe_cmpR op_eq (pv 0) (pv 1) (nomark _)))))) pss_nil)
    (pss_cons (ps_if (PW.pt (pw_or (pt_cmpR op_ne (pe_callB call_isi (by rfl) T.n_isinstance (by decide +kernel) (pa_cons (pv 1) (pa_cons (pe_bltn (v := .ty "tuple") (by rfl) T.n_tuple (by decide +kernel) rfl) pa_nil))) (pe_callB call_isi (by rfl) T.n_isinstance (by decide +kernel) (pa_cons (pv 0) (pa_cons (pe_bltn (v := .ty "tuple") (by rfl) T.n_tuple (by decide +kernel) rfl) pa_nil))) (nomark _)) (pw_or1 (pt_cmpR op_ne (pe_callB call_isi (by rfl) T.n_isinstance (by decide +kernel) (pa_cons (pv 1) (pa_cons (pe_bltn (v := .ty "list") (by rfl) T.n_list (by decide +kernel) rfl) pa_nil))) (pe_callB call_isi (by rfl) T.n_isinstance (by decide +kernel) (pa_cons (pv 0) (pa_cons (pe_bltn (v := .ty "list") (by rfl) T.n_list (by decide +kernel) rfl) pa_nil))) (nomark _))))) (pss_one (ps_ret pe_bl)) pss_nil)
    (pss_one (ps_ret (pe_and (pe_cmpR op_eq (pe_callB call_len (by rfl) T.n_len PySem.boot_len (pa_cons (pv 0) pa_nil)) (pe_callB call_len (by rfl) T.n_len PySem.boot_len (pa_cons (pv 1) pa_nil)) (nomark _)) (pe_one (pe_callB (cr_all rfl) (by rfl) T.n_all (by decide +kernel) (pa_cons (pe_lc (own := [("k", 2)]) rfl sc.nd (pi_range1 (by rfl) T.n_range (pa_cons (pe_callB call_len (by rfl) T.n_len PySem.boot_len (pa_cons (pv 1) pa_nil)) pa_nil)) (blkOk_by (own := [("k", 2)]) (N := ["found", "due", "k"]) (sc := defScope s__law_same) (by decide +kernel)) (fun _ _ _ _ _ => (pg_name (i := 2) sc.nd rfl (Or.inl rfl))) (fun _ _ _ _ _ => pts_nil) (fun _ _ _ _ _ => (pe_cal C__law_same hr (by rfl) pass0 (pa_cons (pe_ix (r := rIx K) ix_seq (pv 0) (pv 2) (fun _ _ => rfl)) (pa_cons (pe_ix (r := rIx K) ix_seq (pv 1) (pv 2) (fun _ _ => rfl)) pa_nil))))) pa_nil))))))))))), ?_⟩
  have kb : ∀ (b : Bool) (T : String) (r : Bool), kitB "bool" T = some r → PySem.W.kitOne K (.type "bool") (.type T) = some r := fun _ _ _ h => kit_ty h
  rcases h with (⟨b, rfl, rfl⟩ | ⟨b, rfl, rfl⟩ | ⟨b, rfl, rfl⟩) | ⟨a, c, xs, ys, rfl, rfl, hH, hlen, h3, hall⟩
  · -- flags
    refine ⟨_, rfl, _, rfl, ?_⟩
    rw [decide_eq_false (fun q => nomatch q)]
    refine iteF ⟨_, rfl, _, _, _, _, true, rfl, .ty _, .base (.bl b), kit_ty (by decide +kernel), _, rfl, iteT ?_⟩
    refine ⟨_, rfl, _, _, _, _, true, rfl, .ty _, .base (.bl b), kit_ty (by decide +kernel), _, rfl, iteT ⟨_, rfl, _, rfl, rfl, ?_⟩⟩
    rw [dec_refl]
    exact q _ (Same.refl _)
  · -- numbers
    refine ⟨_, rfl, _, rfl, ?_⟩
    rw [decide_eq_false (fun q => nomatch q)]
    refine iteF ⟨_, rfl, _, _, _, _, false, rfl, .ty _, .base (.int b), kit_ty (by decide +kernel), _, rfl, iteF ?_⟩
    refine ⟨_, rfl, _, _, _, _, true, rfl, .ty _, .base (.int b), kit_ty (by decide +kernel), _, rfl, iteT ?_⟩
    refine ⟨_, rfl, _, _, _, _, true, rfl, .ty _, .base (.int b), kit_ty (by decide +kernel), _, rfl, iteT ?_⟩
    refine ⟨_, rfl, _, _, _, _, false, rfl, .ty _, .base (.int b), kit_ty (by decide +kernel), _, rfl, _, rfl, iteT ⟨_, rfl, _, rfl, rfl, ?_⟩⟩
    rw [dec_refl]
    exact q _ (Same.refl _)
  · -- texts
    refine ⟨_, rfl, _, rfl, ?_⟩
    rw [decide_eq_false (fun q => nomatch q)]
    refine iteF ⟨_, rfl, _, _, _, _, false, rfl, .ty _, .base (.str b), kit_ty (by decide +kernel), _, rfl, iteF ?_⟩
    refine ⟨_, rfl, _, _, _, _, false, rfl, .ty _, .base (.str b), kit_ty (by decide +kernel), _, rfl, iteF ?_⟩
    refine ⟨_, rfl, _, _, _, _, true, rfl, .ty _, .base (.str b), kit_ty (by decide +kernel), _, rfl, iteT ?_⟩
    refine ⟨_, rfl, _, _, _, _, true, rfl, .ty _, .base (.str b), kit_ty (by decide +kernel), _, rfl, iteT ⟨_, rfl, _, rfl, rfl, ?_⟩⟩
    rw [dec_refl]
    exact q _ (Same.refl _)
  · -- rows
    have core : ∀ (lc : (SqL K H c ys ∧ SqL K H a xs) ∨ (SqT K H c ys ∧ SqT K H a xs)),
        tRet (tAndV (tOp rEq (tCB (fun xs H Q => ∃ (x : V) (n : Nat), xs = [x] ∧ LenV K x H n ∧ Q (.int n) H) (tCons (tVar 0) tNil)) (tCB (fun xs H Q => ∃ (x : V) (n : Nat), xs = [x] ∧ LenV K x H n ∧ Q (.int n) H) (tCons (tVar 1) tNil)))
          (tCB (rAll K) (tCons (tLc (iRng1 (tCons (tCB (fun xs H Q => ∃ (x : V) (n : Nat), xs = [x] ∧ LenV K x H n ∧ Q (.int n) H) (tCons (tVar 1) tNil)) tNil)) (gName 2) tYes
            (tCall (spSame k) [] E0 (tCons (tOp (rIx K) (tVar 0) (tVar 2)) (tCons (tOp (rIx K) (tVar 1) (tVar 2)) tNil))) [2]) tNil))) { nx := fun x H' => Q V.non H', rt := Q } [some (.ref a), some (.ref c), none] H := fun lc => by
      have la : LenV K (.ref a) H xs.length := by
        rcases lc with ⟨_, h⟩ | ⟨_, h⟩
        · exact .inl ⟨_, h, rfl⟩
        · exact .inr ⟨_, h, rfl⟩
      have lcc : LenV K (.ref c) H ys.length := by
        rcases lc with ⟨h, _⟩ | ⟨h, _⟩
        · exact .inl ⟨_, h, rfl⟩
        · exact .inr ⟨_, h, rfl⟩
      refine ⟨_, rfl, _, _, rfl, la, _, rfl, _, _, rfl, lcc, rfl, _, rfl, ?_⟩
      rw [hlen, dec_refl]
      refine iteT ⟨_, rfl, _, _, rfl, lcc, _, rfl, by omega, by omega, fun D new => lc_range (lo := 0) (Pv := fun i H' => Same H H' ∧ H' D = some (.lst (List.replicate i (V.bl true)))) ⟨same_upd new, upd_same⟩ ?_ ?_⟩
      · rintro i H1 hi ⟨s1, e1⟩
        have hi' : i < ys.length := by omega
        refine ⟨rfl, ?_⟩
        unfold tYes
        dsimp only
        rw [if_pos rfl]
        have hx : xs[i]? = some xs[i] := List.getElem?_eq_getElem (by omega)
        have hy : ys[i]? = some ys[i] := List.getElem?_eq_getElem (by omega)
        have ha := (hall i _ _ hx hy).mono s1
        generalize xs[i] = x at hx ha
        generalize ys[i] = y at hy ha
        have e0 : ((0 : Int) + (i : Int)) = ((i : Nat) : Int) := by omega
        have gx : rIx K (.ref a) (.int ((0 : Int) + (i : Int))) H1 = fun R => rIx K (.ref a) (.int ((i : Nat) : Int)) H1 R := by rw [e0]
        have ix : ∀ (b : Addr) (zs : List V) (z : V) (R : V → Hp → Prop), (SqL K H1 b zs ∨ SqT K H1 b zs) → zs[i]? = some z → R z H1 → rIx K (.ref b) (.int ((0 : Int) + (i : Int))) H1 R := fun b zs z R hs hz hR => by
          rw [e0]
          rcases hs with hs | hs
          · exact .inl ⟨b, zs, _, z, rfl, rfl, hs, atI_nat hz, hR⟩
          · exact .inr (.inl ⟨b, zs, _, z, rfl, rfl, hs, atI_nat hz, hR⟩)
        have sa : SqL K H1 a xs ∨ SqT K H1 a xs := by
          rcases hH with ⟨h, _⟩ | ⟨h, _⟩
          · exact .inr (SqT.of (s1 _ _ h))
          · exact .inl (SqL.of (s1 _ _ h))
        have sc' : SqL K H1 c ys ∨ SqT K H1 c ys := by
          rcases hH with ⟨_, h⟩ | ⟨_, h⟩
          · exact .inr (SqT.of (s1 _ _ h))
          · exact .inl (SqL.of (s1 _ _ h))
        refine ⟨_, rfl, _, rfl, ix a xs x _ sa hx ⟨_, rfl, _, rfl, ix c ys y _ sc' hy ?_⟩⟩
        refine ⟨x, y, rfl, ha, fun H2 s2 => ⟨_, s2 _ _ e1, ?_, fun b o e => ?_, ?_⟩⟩
        · rw [List.length_replicate, sizeLine_eq]
          omega
        · rw [upd_ne (ne_of_none e new)]
          exact s2 _ _ (s1 _ _ e)
        · rw [upd_same, rep_snoc]
      · rintro H1 ⟨s1, e1⟩
        refine ⟨D, List.replicate ys.length true, rfl, SqL.of ?_, ?_⟩
        · rw [e1, List.map_replicate]
          rfl
        · rw [show (List.replicate ys.length true).all id = true from by simp]
          exact q _ s1
    refine ⟨_, rfl, _, rfl, ?_⟩
    rw [decide_eq_false (fun q => nomatch q)]
    rcases hH with ⟨hA, hC⟩ | ⟨hA, hC⟩
    · have ta : TyX K H (.ref a) (.type "tuple") := .base (.tup hA)
      have tc : TyX K H (.ref c) (.type "tuple") := .base (.tup hC)
      refine iteF ⟨_, rfl, _, _, _, _, false, rfl, .ty _, tc, kit_ty (by decide +kernel), _, rfl, iteF ?_⟩
      refine ⟨_, rfl, _, _, _, _, false, rfl, .ty _, tc, kit_ty (by decide +kernel), _, rfl, iteF ?_⟩
      refine ⟨_, rfl, _, _, _, _, false, rfl, .ty _, tc, kit_ty (by decide +kernel), _, rfl, iteF ?_⟩
      refine ⟨_, rfl, _, _, _, _, true, rfl, .ty _, tc, kit_ty (by decide +kernel), _, rfl, _, _, _, _, true, rfl, .ty _, ta, kit_ty (by decide +kernel), rfl, _, rfl, iteF ?_⟩
      refine ⟨_, rfl, _, _, _, _, false, rfl, .ty _, tc, kit_ty (by decide +kernel), _, rfl, _, _, _, _, false, rfl, .ty _, ta, kit_ty (by decide +kernel), rfl, _, rfl, iteF ?_⟩
      exact core (.inr ⟨SqT.of hC, SqT.of hA⟩)
    · have ta : TyX K H (.ref a) (.type "list") := .base (.lst hA)
      have tc : TyX K H (.ref c) (.type "list") := .base (.lst hC)
      refine iteF ⟨_, rfl, _, _, _, _, false, rfl, .ty _, tc, kit_ty (by decide +kernel), _, rfl, iteF ?_⟩
      refine ⟨_, rfl, _, _, _, _, false, rfl, .ty _, tc, kit_ty (by decide +kernel), _, rfl, iteF ?_⟩
      refine ⟨_, rfl, _, _, _, _, false, rfl, .ty _, tc, kit_ty (by decide +kernel), _, rfl, iteF ?_⟩
      refine ⟨_, rfl, _, _, _, _, false, rfl, .ty _, tc, kit_ty (by decide +kernel), _, rfl, _, _, _, _, false, rfl, .ty _, ta, kit_ty (by decide +kernel), rfl, _, rfl, iteF ?_⟩
      refine ⟨_, rfl, _, _, _, _, true, rfl, .ty _, tc, kit_ty (by decide +kernel), _, rfl, _, _, _, _, true, rfl, .ty _, ta, kit_ty (by decide +kernel), rfl, _, rfl, iteF ?_⟩
      exact core (.inl ⟨SqL.of hC, SqL.of hA⟩)
theorem no_same {f : Addr} {fd : FuncData} : FnOk P w K mg base CX0 0 f fd ["found", "due"] (spSame 0) := by
  have no : ∀ vs H Q E, ¬ spSame 0 vs H Q E := fun vs H Q E h => by
    obtain ⟨_, _, _, h, _⟩ := h
    exact h
  exact ⟨fun vs H Q E h => absurd h (no vs H Q E), fun A outer s H args us vs Q E _ _ _ _ h => absurd h (no vs H Q E)⟩
theorem all_same {f : Addr} {fd : FuncData} (T : TopF K w mg aF aS es n t1 t2 t3 t4 t5 t6) (F : Fun K "_law_same" "_law_same" s__law_same f fd) (hm : mg "_law_same" = some (.ref f)) (hb : Binds K fd ["found", "due"] []) :
    ∀ k : Nat, Cal P w K mg base "_law_same" k ["found", "due"] (spSame k)
  | 0 => ⟨f, fd, no_same, hm, F.kp, hb⟩
  | k + 1 => ⟨f, fd, ok__law_same T F (all_same T F hm hb k), hm, F.kp, hb⟩

/-! ### law -/
theorem Toks.get {H : Hp} {ps : List Addr} {ts : List Tk} (h : Toks H ps ts) : ∀ (i : Nat) (p : Addr), ps[i]? = some p → ∃ t, ts[i]? = some t ∧ H p = some (.tup (tokV t)) := by
  induction h with
  | nil => intro i p e; simp at e
  | @snoc ps ts p t h0 hp ih =>
    intro i q e
    have hl := h0.len
    by_cases hi : i < ps.length
    · rw [List.getElem?_append_left hi] at e
      obtain ⟨t', e1, e2⟩ := ih i q e
      exact ⟨t', by rw [List.getElem?_append_left (by omega)]; exact e1, e2⟩
    · rw [List.getElem?_append_right (by omega)] at e
      have h0 : i - ps.length = 0 := by
        have := (List.getElem?_eq_some_iff.mp e).1
        simp at this
        omega
      rw [h0] at e
      have e' : p = q := Option.some.inj e
      subst e'
      exact ⟨t, by rw [List.getElem?_append_right (by omega), show i - ts.length = 0 by omega]; rfl, hp⟩
theorem alike_tok {H : Hp} {p q : Addr} {t : Tk} (hp : H p = some (.tup (tokV t))) (hq : H q = some (.tup (tokV t))) : Alike 2 H (.ref p) (.ref q) := by
  refine .inr ⟨p, q, _, _, rfl, rfl, .inl ⟨hp, hq⟩, rfl, by show 3 ≤ 3000; decide, fun i x y hx hy => .inl ?_⟩
  have e : x = y := Option.some.inj (hx.symm.trans hy)
  subst e
  match i, hx with
  | 0, h => exact .inr (.inr ⟨t.1, (Option.some.inj h).symm, (Option.some.inj h).symm⟩)
  | 1, h => exact .inr (.inl ⟨_, (Option.some.inj h).symm, (Option.some.inj h).symm⟩)
  | 2, h => exact .inr (.inl ⟨_, (Option.some.inj h).symm, (Option.some.inj h).symm⟩)
  | i + 3, h => cases h
theorem alike_toks {H : Hp} {l m : Addr} {ps qs : List Addr} {ts : List Tk} (hl : H l = some (.lst (ps.map V.ref))) (hm : H m = some (.lst (qs.map V.ref))) (hp : Toks H ps ts) (hq : Toks H qs ts) (hn : ts.length ≤ 3000) : Alike 3 H (.ref l) (.ref m) := by
  refine .inr ⟨l, m, _, _, rfl, rfl, .inr ⟨hl, hm⟩, ?_, ?_, fun i x y hx hy => ?_⟩
  · rw [List.length_map, List.length_map, hp.len, hq.len]
  · rw [List.length_map, hp.len]
    exact hn
  · rw [List.getElem?_map] at hx hy
    cases h1 : ps[i]? with
    | none => rw [h1] at hx; cases hx
    | some a =>
      cases h2 : qs[i]? with
      | none => rw [h2] at hy; cases hy
      | some b =>
        rw [h1] at hx
        rw [h2] at hy
        obtain ⟨t, e1, e2⟩ := hp.get i a h1
        obtain ⟨t', e3, e4⟩ := hq.get i b h2
        rw [e1] at e3
        cases e3
        cases hx
        cases hy
        exact alike_tok e2 e4
theorem toks_len_ (cs : List Nat) : ∀ (k a : Nat), cs.length - a = k → (toksFrom cs a).length ≤ cs.length - a := by
  intro k
  induction k using Nat.strongRecOn with
  | ind k ih =>
    intro a ha
    by_cases h : a < cs.length
    · obtain ⟨c, hc⟩ := some_at h
      have hm := step_more hc
      rw [toks_more hc, List.length_append]
      have h1 : (stepAt cs a c).1.toList.length ≤ 1 := by
        cases (stepAt cs a c).1 <;> simp
      have h2 := ih (cs.length - (stepAt cs a c).2) (by omega) _ rfl
      omega
    · rw [toks_end (by omega)]
      exact Nat.zero_le _
theorem toks_len (cs : List Nat) : (toksFrom cs 0).length ≤ cs.length := toks_len_ cs _ 0 rfl
/-- a list of tokens as data -/
def tokD (t : Tk) : PyData := .tuple [.str t.1, .int (t.2.1 : Int), .int (t.2.2 : Int)]
theorem Toks.dp {H : Hp} {ps : List Addr} {ts : List Tk} (h : Toks H ps ts) : DpAll K H (ps.map V.ref) (ts.map tokD) := by
  have app : ∀ {xs ys : List V} {ds es : List PyData}, DpAll K H xs ds → DpAll K H ys es → DpAll K H (xs ++ ys) (ds ++ es) := by
    intro xs ys ds es h
    induction xs generalizing ds with
    | nil => cases h; exact fun h2 => h2
    | cons x r ih =>
      cases h with
      | cons a b => exact fun h2 => .cons a (ih b h2)
  induction h with
  | nil => exact .nil
  | snoc h0 hp ih =>
    rw [List.map_append, List.map_append]
    exact app ih (.cons (.tup (SqT.of hp) (.cons (.str _) (.cons (.int _) (.cons (.int _) .nil)))) .nil)
theorem tokD_eqv (t u : Tk) : PyData.eqv (tokD t) (tokD u) = decide (t = u) := by
  obtain ⟨a, b, c⟩ := t
  obtain ⟨a', b', c'⟩ := u
  show ((a == a') && (((b : Int) == (b' : Int)) && (((c : Int) == (c' : Int)) && true))) = _
  rw [Bool.eq_iff_iff]
  simp
  omega
theorem toks_eqv (ts : List Tk) (u : Tk) : PyData.eqv (.list (ts.map tokD)) (.list [tokD u]) = decide (ts = [u]) := by
  show PyData.eqvAll (ts.map tokD) [tokD u] = _
  match ts with
  | [] => simp [PyData.eqvAll]
  | [t] =>
    show (PyData.eqv (tokD t) (tokD u) && true) = _
    rw [tokD_eqv, Bool.and_true, Bool.eq_iff_iff]
    simp
  | t :: t' :: r =>
    show (PyData.eqv (tokD t) (tokD u) && false) = _
    rw [Bool.and_false]
    simp
theorem sort_ok (cs : List Nat) : PyData.strOk (sortP cs) = true := by
  unfold sortP
  repeat' split
  all_goals decide +kernel
theorem ok_sign : PyData.strOk sSign = true := by decide +kernel
theorem ok_name : PyData.strOk sName = true := by decide +kernel
theorem ok_wrong : PyData.strOk sWrong = true := by decide +kernel
theorem ok_string : PyData.strOk sString = true := by decide +kernel
theorem tok_ok (cs : List Nat) (a c : Nat) : PyData.strOk (tokOf cs a c).1 = true := by
  unfold tokOf
  split
  · exact ok_sign
  · split
    · unfold strTok
      split
      · dsimp only
        split
        · exact ok_string
        · exact ok_wrong
      · exact ok_wrong
    · unfold wordTok
      split
      · exact ok_sign
      · exact sort_ok _
theorem toks_ok_ (cs : List Nat) : ∀ (k a : Nat), cs.length - a = k → ∀ t ∈ toksFrom cs a, PyData.strOk t.1 = true := by
  intro k
  induction k using Nat.strongRecOn with
  | ind k ih =>
    intro a ha t ht
    by_cases h : a < cs.length
    · obtain ⟨c, hc⟩ := some_at h
      have hm := step_more hc
      rw [toks_more hc] at ht
      rcases List.mem_append.mp ht with q | q
      · unfold stepAt at q
        split at q
        · cases q
        · split at q
          · cases q
          · have q' : t = tokOf cs a c := by simpa using q
            rw [q']
            exact tok_ok _ _ _
      · exact ih (cs.length - (stepAt cs a c).2) (by omega) _ rfl t q
    · rw [toks_end (by omega)] at ht
      cases ht
theorem toks_shaped (ts : List Tk) (h : ∀ t ∈ ts, PyData.strOk t.1 = true) : SeqAt.shaped (.list (ts.map tokD)) = true := by
  have hc : PyData.canLayAll0 (ts.map tokD) = true ∧ PyData.depthAll (ts.map tokD) ≤ 1 := by
    induction ts with
    | nil => exact ⟨rfl, Nat.zero_le _⟩
    | cons t r ih =>
      have ih := ih fun x hx => h x (List.mem_cons_of_mem _ hx)
      refine ⟨?_, ?_⟩
      · show (PyData.canLay0 (tokD t) && PyData.canLayAll0 (r.map tokD)) = true
        rw [ih.1, Bool.and_true]
        show (PyData.strOk t.1 && (true && (true && true))) = true
        rw [h t (List.mem_cons_self ..)]
        rfl
      · show max (PyData.depth (tokD t)) (PyData.depthAll (r.map tokD)) ≤ 1
        have e : PyData.depth (tokD t) = 1 := rfl
        omega
  unfold SeqAt.shaped
  rw [Bool.and_eq_true]
  refine ⟨hc.1, decide_eq_true ?_⟩
  show PyData.depthAll (ts.map tokD) + 1 ≤ 64
  omega

theorem txt_ok {y : PySem.Str} (h : y.length ≤ 1000) : isTxt 0 1000 (.str y) = true := by
  show (decide (0 ≤ y.length) && decide (y.length ≤ 1000)) = true
  rw [decide_eq_true (Nat.zero_le _), decide_eq_true h]
  rfl
/-- what law(script) promises: for a list of at most 63 ints the answer is True -/
def spLaw (K : PySem.W.Frag) : Sp := fun vs H Q _ => ∃ (a : Addr) (ns : List Int), vs = [.ref a] ∧ SqL K H a (ns.map V.int) ∧ ns.length ≤ 63 ∧ ∀ H', Q (.bl true) H'
theorem sc_law : FnScope ["script", "draws", "text", "due", "words", "sort", "start", "end", "k", "word", "good"] ["script"] (defScope s_law) := ⟨rfl, rfl, rfl, by decide +kernel, rfl, by decide +kernel, by decide +kernel⟩
theorem ok_law {f : Addr} {fd : FuncData} (T : TopF K w mg aF aS es n t1 t2 t3 t4 t5 t6) (F : Fun K "law" "law" s_law f fd)
    (C_is_name : Cal P w K mg base "is_name" 1 ["text"] (spFlag isNameP)) (C_tokens : Cal P w K mg base "tokens" 5 ["text"] spTokens)
    (C__law_draws : Cal P w K mg base "_law_draws" 1 ["script", "count"] (spDraws K)) (C__law_same : Cal P w K mg base "_law_same" 3 ["found", "due"] (spSame 3))
    (C__law_tokens : Cal P w K mg base "_law_tokens" 2 ["text"] spTokens) (C__law_word : Cal P w K mg base "_law_word" 2 ["draws"] spWord) (C__law_text : Cal P w K mg base "_law_text" 3 ["draws"] spText) :
    FnOk P w K mg base CX0 6 f fd ["script"] (spLaw K) := by
  have sc := sc_law
  refine F.ok sc (fun vs H Q E h => ?_) (fun cdv A outer s H vs Q E hr h => ?_)
  · obtain ⟨a, ns, rfl, _⟩ := h
    rfl
  obtain ⟨a, ns, rfl, hS, h63, q⟩ := h
  refine ⟨_, (pss_cons (ps_set (i := 1) sc.nd rfl (Or.inr rfl) (pe_cal C__law_draws (hr.mono (by decide)) (by rfl) pass0 (pa_cons (pv 0) (pa_cons pe_int pa_nil))))
    (pss_cons (ps_set (i := 2) sc.nd rfl (Or.inr rfl) (pe_cal C__law_text (hr.mono (by decide)) (by rfl) pass0 (pa_cons (pv 1) pa_nil)))
    (pss_cons (ps_set (i := 3) sc.nd rfl (Or.inl rfl) (pe_cal C__law_tokens (hr.mono (by decide)) (by rfl) pass0 (pa_cons (pv 2) pa_nil)))
    (pss_cons (ps_if (PW.pt (pw_or (pt_not (pt_val (pe_cal C__law_same (hr.mono (by decide)) (by rfl) pass0 (pa_cons (pe_cal C_tokens (hr.mono (by decide)) (by rfl) pass0 (pa_cons (pv 2) pa_nil)) (pa_cons (pv 3) pa_nil))))) (pw_or1 (pt_not (pt_val (pe_cal C__law_same (hr.mono (by decide)) (by rfl) pass0 (pa_cons (pe_cal C_tokens (hr.mono (by decide)) (by rfl) pass0 (pa_cons (pv 2) pa_nil)) (pa_cons (pv 3) pa_nil)))))))) (pss_one (ps_ret pe_bl)) pss_nil)
    (pss_cons (ps_set (i := 4) sc.nd rfl (Or.inl rfl) (pe_op op_cat (pe_lc (own := [("sort", 5), ("start", 6), ("end", 7)]) (g := gTup K 3 (gCons (gName 5) (gCons (gName 6) (gCons (gName 7) gNil)))) rfl sc.nd (pi_list (pv 3)) (blkOk_by (own := [("sort", 5), ("start", 6), ("end", 7)]) (N := ["script", "draws", "text", "due", "words", "sort", "start", "end", "k", "word", "good"]) (sc := defScope s_law) (by decide +kernel)) (fun _ _ _ _ _ => (pg_tup (by rfl) (pgs_cons (pg_name (i := 5) sc.nd rfl (Or.inl rfl)) (pgs_cons (pg_name (i := 6) sc.nd rfl (Or.inl rfl)) (pgs_cons (pg_name (i := 7) sc.nd rfl (Or.inl rfl)) pgs_nil))))) (fun _ _ _ _ _ => pts_nil) (fun _ _ _ _ _ => (pe_slice sl_str (pv 2) (po_some (pv 6)) (po_some (pv 7))))) (pe_lc (own := [("k", 8)]) rfl sc.nd (pi_range1 (by rfl) T.n_range (pa_cons pe_int pa_nil)) (blkOk_by (own := [("k", 8)]) (N := ["script", "draws", "text", "due", "words", "sort", "start", "end", "k", "word", "good"]) (sc := defScope s_law) (by decide +kernel)) (fun _ _ _ _ _ => (pg_name (i := 8) sc.nd rfl (Or.inl rfl))) (fun _ _ _ _ _ => pts_nil) (fun _ _ _ _ _ => (pe_cal C__law_word (hr.mono (by decide)) (by rfl) pass0 (pa_cons (pv 1) pa_nil))))))
    (pss_cons (ps_set (i := 4) sc.nd rfl (Or.inl rfl) (pe_op op_cat (pv 4) (pe_lst (pa_cons pe_str (pa_cons pe_str (pa_cons (pe_op op_mul_str pe_str pe_int) (pa_cons (pe_op op_mul_str pe_str pe_int) (pa_cons pe_str (pa_cons pe_str (pa_cons pe_str (pa_cons pe_str (pa_cons pe_str (pa_cons pe_str (pa_cons pe_str (pa_cons pe_str (pa_cons pe_str (pa_cons pe_str (pa_cons pe_str (pa_cons pe_str (pa_cons pe_str (pa_cons pe_str (pa_cons pe_str (pa_cons pe_str (pa_cons pe_str (pa_cons pe_str (pa_cons pe_str (pa_cons pe_str (pa_cons pe_str pa_nil))))))))))))))))))))))))))))
    (pss_cons (ps_for PassesOwn.never rfl (pi_list (pv 4)) (pg_name (i := 9) sc.nd rfl (Or.inl rfl)) (pss_cons (ps_set (i := 10) sc.nd rfl (Or.inl rfl) (pe_and (pe_cmpR op_ne (pv 9) pe_str (nomark _)) (pe_one (pe_cmpR (op_eqD hr.units) (pe_cal C__law_tokens (hr.mono (by decide)) (by rfl) pass0 (pa_cons (pv 9) pa_nil)) (pe_lst (pa_cons (pe_tup (pa_cons pe_str (pa_cons pe_int (pa_cons (pe_callB call_len_str (by rfl) T.n_len PySem.boot_len (pa_cons (pv 9) pa_nil)) pa_nil)))) pa_nil)) (nomark _)))))
    (pss_one (ps_if (pt_not (pt_val (pe_cal C__law_same (hr.mono (by decide)) (by rfl) pass0 (pa_cons (pe_cal C_is_name (hr.mono (by decide)) (by rfl) pass0 (pa_cons (pv 9) pa_nil)) (pa_cons (pv 10) pa_nil))))) (pss_one (ps_ret pe_bl)) pss_nil))))
    (pss_one (ps_ret pe_bl))))))))), ?_⟩
  -- draws
  refine seq_cut (fun σ H1 => ∃ d : Addr, σ = [some (.ref a), some (.ref d), none, none, none, none, none, none, none, none, none] ∧ Ds H1 d) (fun N hN => ⟨_, rfl, a, ns, rfl, hS, h63, fun H1 d ds s1 hd e => hN _ _ ⟨d, rfl, ds, e⟩⟩) ?_
  rintro σ H1 ⟨d, rfl, D1⟩
  -- text
  refine seq_cut (fun σ H2 => ∃ z : PySem.Str, σ = [some (.ref a), some (.ref d), some (.str z), none, none, none, none, none, none, none, none] ∧ z.length ≤ 1000 ∧ Ds H2 d) (fun N hN => ⟨_, rfl, d, rfl, D1, fun z H2 hz s2 D2 => hN _ _ ⟨z, rfl, hz, D2⟩⟩) ?_
  rintro σ H2 ⟨z, rfl, hz, D2⟩
  have hzl := cod_len z
  -- due
  refine seq_cut (fun σ H3 => ∃ (l : Addr) (ps : List Addr), σ = [some (.ref a), some (.ref d), some (.str z), some (.ref l), none, none, none, none, none, none, none] ∧ Ds H3 d ∧ H3 l = some (.lst (ps.map V.ref)) ∧ Toks H3 ps (toksFrom (cod z) 0))
    (fun N hN => ⟨_, rfl, z, rfl, by omega, fun H3 l ps s3 hl el tl => hN _ _ ⟨l, ps, rfl, D2.mono s3, el, tl⟩⟩) ?_
  rintro σ H3 ⟨l, ps, rfl, D3, el, tl⟩
  have hts := toks_len (cod z)
  have hps := tl.len
  -- both readings are the law's
  refine seq_cut (fun σ H4 => σ = [some (.ref a), some (.ref d), some (.str z), some (.ref l), none, none, none, none, none, none, none] ∧ Same H3 H4) (fun N hN => ?_) ?_
  · refine ⟨_, rfl, z, rfl, by omega, fun H4 m qs s4 hn em tq => ⟨_, rfl, _, _, rfl, alike_toks em (s4 _ _ el) tq (tl.mono fun b xs e => s4 _ _ e) (by omega), fun H5 s5 => ⟨_, rfl, iteF ?_⟩⟩⟩
    refine ⟨_, rfl, z, rfl, by omega, fun H6 m' qs' s6 hn' em' tq' => ⟨_, rfl, _, _, rfl, alike_toks em' (s6 _ _ (s5 _ _ (s4 _ _ el))) tq' (tl.mono fun b xs e => s6 _ _ (s5 _ _ (s4 _ _ e))) (by omega), fun H7 s7 => ⟨_, rfl, iteF ?_⟩⟩⟩
    exact hN _ _ ⟨rfl, s4.trans (s5.trans (s6.trans s7))⟩
  rintro σ H4 ⟨rfl, s4⟩
  have D4 := D3.mono s4
  have el4 := s4 _ _ el
  have tl4 := tl.mono (H' := H4) fun b xs e => s4 _ _ e
  -- the words
  refine seq_cut (fun σ H5 => ∃ (W : Addr) (xs : List V), σ = [some (.ref a), some (.ref d), some (.str z), some (.ref l), some (.ref W), none, none, none, none, none, none] ∧ H5 W = some (.lst xs) ∧ xs.length ≤ 1010 ∧ xs.all (isTxt 0 1000) = true) (fun N hN => ?_) ?_
  · refine ⟨_, rfl, l, rfl, ⟨_, SqL.of el4⟩, fun A1 new1 => lc_list (a := l) (xs := ps.map V.ref) (Pv := fun i H' => ∃ xs : List V, H' A1 = some (.lst xs) ∧ xs.length = i ∧ xs.all (isTxt 0 1000) = true ∧ Same H4 H') ⟨[], upd_same, rfl, rfl, same_upd new1⟩ (fun i H' _ ⟨_, _, _, _, s5⟩ => SqL.of (s5 _ _ el4)) ?_ ?_⟩
    · rintro i x H' hx ⟨xs, e, hl, hall, s5⟩
      rw [List.getElem?_map] at hx
      cases hp : ps[i]? with
      | none => rw [hp] at hx; cases hx
      | some p =>
        rw [hp] at hx
        cases hx
        obtain ⟨t, e1, e2⟩ := tl4.get i p hp
        refine ⟨p, tokV t, rfl, SqT.of (s5 _ _ e2), rfl, _, _, rfl, _, _, rfl, _, _, rfl, rfl, rfl, ?_⟩
        unfold tYes
        dsimp only
        rw [if_pos rfl]
        have hi : i < ps.length := (List.getElem?_eq_some_iff.mp hp).1
        refine ⟨_, rfl, _, rfl, _, rfl, _, rfl, _, rfl, z, rfl, small2 (by omega), xs, e, ?_, _, upd_same, ?_, ?_, fun b o q => ?_⟩
        · rw [sizeLine_eq]
          omega
        · rw [List.length_append, List.length_singleton, hl]
        · rw [List.all_append, hall]
          show (true && (isTxt 0 1000 (.str _) && true)) = true
          have hc := cut_len z (some (t.2.1 : Int)) (some (t.2.2 : Int))
          rw [txt_ok (by omega)]
          rfl
        · rw [upd_ne (ne_of_none q new1)]
          exact s5 _ _ q
    · rintro H5 ⟨xs, e, hl, hall, s5⟩
      rw [List.length_map] at hl
      have D5 := D4.mono s5
      have hA1 : A1 ≠ d := fun q => by
        rw [q] at new1
        obtain ⟨_, e⟩ := D4
        rw [new1] at e
        cases e
      refine ⟨6, rfl, by decide, by decide, fun A2 new2 => lc_range (lo := 0) (Pv := fun i H' => ∃ ys : List V, H' A2 = some (.lst ys) ∧ ys.length = i ∧ ys.all (isTxt 0 1000) = true ∧ SameBut d H5 H' ∧ Ds H' d) ⟨[], upd_same, rfl, rfl, .new new2, D5.upd (D5.ne new2)⟩ ?_ ?_⟩
      · rintro i H' hi ⟨ys, e2, hl2, hall2, sb, D6⟩
        have hA2 : A2 ≠ d := D5.ne new2
        refine ⟨rfl, ?_⟩
        unfold tYes
        dsimp only
        rw [if_pos rfl]
        refine ⟨_, rfl, d, rfl, D6, fun y H7 y0 y1 s7 D7 => ⟨ys, s7 _ _ hA2 e2, ?_, _, upd_same, ?_, ?_, fun b o hb q => ?_, D7.upd hA2⟩⟩
        · have : i < 6 := hi
          rw [sizeLine_eq]
          omega
        · rw [List.length_append, List.length_singleton, hl2]
        · rw [List.all_append, hall2]
          show (true && (isTxt 0 1000 (.str _) && true)) = true
          rw [txt_ok (by omega)]
          rfl
        · rw [upd_ne (ne_of_none q new2)]
          exact s7 _ _ hb (sb _ _ hb q)
      · rintro H6 ⟨ys, e2, hl2, hall2, sb, D6⟩
        have hl2' : ys.length = 6 := hl2
        refine ⟨A1, A2, xs, ys, rfl, rfl, sb _ _ hA1 e, e2, by rw [sizeLine_eq]; omega, fun W hW => hN _ _ ⟨W, xs ++ ys, rfl, upd_same, by rw [List.length_append]; omega, by rw [List.all_append, hall, hall2]; rfl⟩⟩
  rintro σ H5 ⟨W, xs, rfl, eW, hxs, hall⟩
  -- and those at the bounds
  refine seq_cut (fun σ H6 => ∃ (W : Addr) (xs : List V), σ = [some (.ref a), some (.ref d), some (.str z), some (.ref l), some (.ref W), none, none, none, none, none, none] ∧ H6 W = some (.lst xs) ∧ xs.all (isTxt 0 1000) = true) (fun N hN => ?_) ?_
  · refine ⟨_, rfl, _, _, rfl, rfl, by decide +kernel, by decide, by decide, _, _, rfl, rfl, by decide +kernel, by decide, by decide, (by show 25 ≤ sizeLine; decide), fun L hL => ?_⟩
    refine ⟨W, L, _, _, rfl, rfl, by rw [upd_ne (ne_of_none eW hL)]; exact eW, upd_same, (by show xs.length + 25 ≤ sizeLine; rw [sizeLine_eq]; omega), fun W2 hW2 => hN _ _ ⟨W2, _, rfl, upd_same, ?_⟩⟩
    rw [List.all_append, hall, Bool.true_and]
    decide +kernel
  rintro σ H6 ⟨W2, xs2, rfl, eW2, hall2⟩
  -- is_name of each
  refine ⟨_, rfl, W2, rfl, ⟨_, SqL.of eW2⟩, for_list (a := W2) (xs := xs2) (fun i σ H' => ∃ v9 v10, σ = [some (.ref a), some (.ref d), some (.str z), some (.ref l), some (.ref W2), none, none, none, none, v9, v10] ∧ H' W2 = some (.lst xs2)) ⟨none, none, rfl, eW2⟩ (fun i σ H' _ ⟨_, _, _, e⟩ => SqL.of e) ?_ ?_⟩
  · rintro i x σ H7 hx ⟨v9, v10, rfl, e7⟩
    obtain ⟨wz, rfl, _, hw⟩ := isTxt_of (List.all_eq_true.mp hall2 x (List.mem_of_getElem? hx))
    have hwl := cod_len wz
    refine seq_cut (fun σ H8 => σ = [some (.ref a), some (.ref d), some (.str z), some (.ref l), some (.ref W2), none, none, none, none, some (.str wz), some (.bl (isNameP (cod wz)))] ∧ H8 W2 = some (.lst xs2)) (fun N hN => ?_) ?_
    · refine ⟨_, rfl, rfl, _, rfl, ?_⟩
      rw [dec_str, show cod (PySem.Str.ofString "") = [] by decide +kernel]
      by_cases h0 : cod wz = []
      · rw [decide_eq_true h0]
        refine iteF (hN _ _ ⟨?_, e7⟩)
        rw [h0]
        rfl
      · rw [decide_eq_false h0]
        refine iteT ⟨_, rfl, wz, rfl, by omega, fun H8 m qs s8 hn em tq => ⟨_, rfl, wz, rfl, small2 (by omega), (by show 3 ≤ sizeLine; decide), fun T1 hT1 => ⟨(by show 1 ≤ sizeLine; decide), fun L1 hL1 => ?_⟩⟩⟩
        have eT : upd (upd H8 T1 (.tup [.str sName, .int 0, .int (wz.length : Int)])) L1 (.lst [.ref T1]) T1 = some (.tup [.str sName, .int 0, .int (wz.length : Int)]) := by
          rw [upd_ne (ne_of_none upd_same hL1), upd_same]
        have sm : Same H8 (upd (upd H8 T1 (.tup [.str sName, .int 0, .int (wz.length : Int)])) L1 (.lst [.ref T1])) := (same_upd hT1).trans (same_upd hL1)
        refine ⟨.list ((toksFrom (cod wz) 0).map tokD), .list [tokD (sName, 0, wz.length)], .lst (SqL.of (sm _ _ em)) (Toks.dp (tq.mono fun b xs e => sm _ _ e)), .lst (SqL.of upd_same) (.cons (.tup (SqT.of eT) (.cons (.str _) (.cons (.int _) (.cons (.int _) .nil)))) .nil), toks_shaped _ (toks_ok_ _ _ 0 rfl), toks_shaped [(sName, 0, wz.length)] (fun t ht => by rw [List.mem_singleton.mp ht]; exact ok_name), ?_⟩
        rw [toks_eqv]
        refine hN _ _ ⟨?_, sm _ _ (s8 _ _ e7)⟩
        have e : decide (toksFrom (cod wz) 0 = [(sName, 0, wz.length)]) = isNameP (cod wz) := by
          rw [← hwl, Bool.eq_iff_iff, decide_eq_true_eq, name_iff]
          exact ⟨fun h => ⟨h0, h⟩, fun h => h.2⟩
        rw [e]
        rfl
    rintro σ H8 ⟨rfl, e8⟩
    refine ⟨_, rfl, wz, rfl, by omega, fun H9 s9 => ⟨_, rfl, _, _, rfl, .inl (.inl ⟨_, rfl, rfl⟩), fun H10 s10 => ⟨_, rfl, iteF ?_⟩⟩⟩
    exact ⟨_, _, rfl, s10 _ _ (s9 _ _ e8)⟩
  · rintro σ H7 _
    exact q H7
end
end K1
set_option Elab.async false
set_option linter.all false
set_option maxRecDepth 100000
set_option maxHeartbeats 4000000
namespace K1
open PySem L2
theorem flag_mk {K : PySem.W.Frag} {aF : Addr} {n : Nat} {h1 h2 : Int} {u1 u2 : Tok} (l : K.lookup aF = some ⟨.type "dict", none, .dict #[⟨h1, .str "#t" u1, .bool true⟩, ⟨h2, .str "#f" u2, .bool false⟩] n, #[]⟩) (z : PySem.Str) :
    PySem.W.nsIn K aF z = some (if cod z = flagT then some (.bool true) else if cod z = flagF then some (.bool false) else none) := by
  have e1 : ∀ (x : PySem.Str) (u : Tok), (Value.str x u).isStr z = decide (cod z = cod x) := fun x u => by
    show (x == z) = _
    by_cases h : cod z = cod x
    · rw [decide_eq_true h, str_ext h, beq_self_eq_true]
    · rw [decide_eq_false h]
      exact beq_false_of_ne fun q => h (by rw [q])
  unfold PySem.W.nsIn
  rw [l]
  dsimp only
  rw [List.find?_cons, e1, show cod ("#t" : PySem.Str) = flagT by decide +kernel]
  by_cases h1 : cod z = flagT
  · rw [decide_eq_true h1, if_pos h1]
  · rw [decide_eq_false h1, if_neg h1]
    dsimp only
    rw [List.find?_cons, e1, show cod ("#f" : PySem.Str) = flagF by decide +kernel]
    by_cases h2 : cod z = flagF
    · rw [decide_eq_true h2, if_pos h2]
    · rw [decide_eq_false h2, if_neg h2]
      rfl
theorem all_mk {l : PySem.W.OpenLaw} {w : World} {K : PySem.W.Frag} {h : Heap} {mg : PySem.Str → Option Value} {fa f0 f1 f2 f3 f4 f5 f6 f7 f8 f9 f10 f11 f12 f13 f14 f15 f16 aF aS : Addr} (X : K.In h) (G : h.Ns mainGlobals mg) (hfa : mg "law" = some (.ref fa))
    {od0 an0 od1 an1 od2 an2 od3 an3 od4 an4 od5 an5 od6 an6 od7 an7 od8 an8 od9 an9 od10 an10 od11 an11 od12 an12 od13 an13 od14 an14 od15 an15 od16 an16 : Option Addr} {sl0 sl1 sl2 sl3 sl4 sl5 sl6 sl7 sl8 sl9 sl10 sl11 sl12 sl13 sl14 sl15 sl16 : Array (Option Value)} {oc0 kV0 dc0 pm0 cd0 ct0 oc1 kV1 dc1 pm1 cd1 ct1 oc2 kV2 dc2 pm2 cd2 ct2 oc3 kV3 dc3 pm3 cd3 ct3 oc4 kV4 dc4 pm4 cd4 ct4 oc5 kV5 dc5 pm5 cd5 ct5 oc6 kV6 dc6 pm6 cd6 ct6 oc7 kV7 dc7 pm7 cd7 ct7 oc8 kV8 dc8 pm8 cd8 ct8 oc9 kV9 dc9 pm9 cd9 ct9 oc10 kV10 dc10 pm10 cd10 ct10 oc11 kV11 dc11 pm11 cd11 ct11 oc12 kV12 dc12 pm12 cd12 ct12 oc13 kV13 dc13 pm13 cd13 ct13 oc14 kV14 dc14 pm14 cd14 ct14 oc15 kV15 dc15 pm15 cd15 ct15 oc16 kV16 dc16 pm16 cd16 ct16 : Value}
    {t1 t2 t3 t4 t5 t6 u1 u2 u3 u4 : Tok} {n m : Nat} {ddS : Option Addr} {slS : Array (Option Value)}
    (a0 : PySem.W.nsIn K mainGlobals "are_figures" = some (some (.ref f0))) (l0 : K.lookup f0 = some ⟨oc0, od0, .func (PySem.W.fnOf "are_figures" "are_figures" (defArgs s_are_figures) (defBody s_are_figures) (defScope s_are_figures) .none kV0 dc0 pm0 an0 cd0 ct0), sl0⟩) (c0 : PySem.W.codeIn K cd0 "are_figures" = true) (k0 : PySem.W.keepIn K (.ref f0) = true)
    (a1 : PySem.W.nsIn K mainGlobals "is_number_word" = some (some (.ref f1))) (l1 : K.lookup f1 = some ⟨oc1, od1, .func (PySem.W.fnOf "is_number_word" "is_number_word" (defArgs s_is_number_word) (defBody s_is_number_word) (defScope s_is_number_word) .none kV1 dc1 pm1 an1 cd1 ct1), sl1⟩) (c1 : PySem.W.codeIn K cd1 "is_number_word" = true) (k1 : PySem.W.keepIn K (.ref f1) = true)
    (a2 : PySem.W.nsIn K mainGlobals "is_name" = some (some (.ref f2))) (l2 : K.lookup f2 = some ⟨oc2, od2, .func (PySem.W.fnOf "is_name" "is_name" (defArgs s_is_name) (defBody s_is_name) (defScope s_is_name) .none kV2 dc2 pm2 an2 cd2 ct2), sl2⟩) (c2 : PySem.W.codeIn K cd2 "is_name" = true) (k2 : PySem.W.keepIn K (.ref f2) = true)
    (a3 : PySem.W.nsIn K mainGlobals "sort_of" = some (some (.ref f3))) (l3 : K.lookup f3 = some ⟨oc3, od3, .func (PySem.W.fnOf "sort_of" "sort_of" (defArgs s_sort_of) (defBody s_sort_of) (defScope s_sort_of) .none kV3 dc3 pm3 an3 cd3 ct3), sl3⟩) (c3 : PySem.W.codeIn K cd3 "sort_of" = true) (k3 : PySem.W.keepIn K (.ref f3) = true)
    (a4 : PySem.W.nsIn K mainGlobals "end_of_line" = some (some (.ref f4))) (l4 : K.lookup f4 = some ⟨oc4, od4, .func (PySem.W.fnOf "end_of_line" "end_of_line" (defArgs s_end_of_line) (defBody s_end_of_line) (defScope s_end_of_line) .none kV4 dc4 pm4 an4 cd4 ct4), sl4⟩) (c4 : PySem.W.codeIn K cd4 "end_of_line" = true) (k4 : PySem.W.keepIn K (.ref f4) = true)
    (a5 : PySem.W.nsIn K mainGlobals "string_token" = some (some (.ref f5))) (l5 : K.lookup f5 = some ⟨oc5, od5, .func (PySem.W.fnOf "string_token" "string_token" (defArgs s_string_token) (defBody s_string_token) (defScope s_string_token) .none kV5 dc5 pm5 an5 cd5 ct5), sl5⟩) (c5 : PySem.W.codeIn K cd5 "string_token" = true) (k5 : PySem.W.keepIn K (.ref f5) = true)
    (a6 : PySem.W.nsIn K mainGlobals "word_token" = some (some (.ref f6))) (l6 : K.lookup f6 = some ⟨oc6, od6, .func (PySem.W.fnOf "word_token" "word_token" (defArgs s_word_token) (defBody s_word_token) (defScope s_word_token) .none kV6 dc6 pm6 an6 cd6 ct6), sl6⟩) (c6 : PySem.W.codeIn K cd6 "word_token" = true) (k6 : PySem.W.keepIn K (.ref f6) = true)
    (a7 : PySem.W.nsIn K mainGlobals "tokens" = some (some (.ref f7))) (l7 : K.lookup f7 = some ⟨oc7, od7, .func (PySem.W.fnOf "tokens" "tokens" (defArgs s_tokens) (defBody s_tokens) (defScope s_tokens) .none kV7 dc7 pm7 an7 cd7 ct7), sl7⟩) (c7 : PySem.W.codeIn K cd7 "tokens" = true) (k7 : PySem.W.keepIn K (.ref f7) = true)
    (a8 : PySem.W.nsIn K mainGlobals "_law_draws" = some (some (.ref f8))) (l8 : K.lookup f8 = some ⟨oc8, od8, .func (PySem.W.fnOf "_law_draws" "_law_draws" (defArgs s__law_draws) (defBody s__law_draws) (defScope s__law_draws) .none kV8 dc8 pm8 an8 cd8 ct8), sl8⟩) (c8 : PySem.W.codeIn K cd8 "_law_draws" = true) (k8 : PySem.W.keepIn K (.ref f8) = true)
    (a9 : PySem.W.nsIn K mainGlobals "_law_take" = some (some (.ref f9))) (l9 : K.lookup f9 = some ⟨oc9, od9, .func (PySem.W.fnOf "_law_take" "_law_take" (defArgs s__law_take) (defBody s__law_take) (defScope s__law_take) .none kV9 dc9 pm9 an9 cd9 ct9), sl9⟩) (c9 : PySem.W.codeIn K cd9 "_law_take" = true) (k9 : PySem.W.keepIn K (.ref f9) = true)
    (a10 : PySem.W.nsIn K mainGlobals "_law_same" = some (some (.ref f10))) (l10 : K.lookup f10 = some ⟨oc10, od10, .func (PySem.W.fnOf "_law_same" "_law_same" (defArgs s__law_same) (defBody s__law_same) (defScope s__law_same) .none kV10 dc10 pm10 an10 cd10 ct10), sl10⟩) (c10 : PySem.W.codeIn K cd10 "_law_same" = true) (k10 : PySem.W.keepIn K (.ref f10) = true)
    (a11 : PySem.W.nsIn K mainGlobals "_law_sort" = some (some (.ref f11))) (l11 : K.lookup f11 = some ⟨oc11, od11, .func (PySem.W.fnOf "_law_sort" "_law_sort" (defArgs s__law_sort) (defBody s__law_sort) (defScope s__law_sort) .none kV11 dc11 pm11 an11 cd11 ct11), sl11⟩) (c11 : PySem.W.codeIn K cd11 "_law_sort" = true) (k11 : PySem.W.keepIn K (.ref f11) = true)
    (a12 : PySem.W.nsIn K mainGlobals "_law_tokens" = some (some (.ref f12))) (l12 : K.lookup f12 = some ⟨oc12, od12, .func (PySem.W.fnOf "_law_tokens" "_law_tokens" (defArgs s__law_tokens) (defBody s__law_tokens) (defScope s__law_tokens) .none kV12 dc12 pm12 an12 cd12 ct12), sl12⟩) (c12 : PySem.W.codeIn K cd12 "_law_tokens" = true) (k12 : PySem.W.keepIn K (.ref f12) = true)
    (a13 : PySem.W.nsIn K mainGlobals "_law_signs" = some (some (.ref f13))) (l13 : K.lookup f13 = some ⟨oc13, od13, .func (PySem.W.fnOf "_law_signs" "_law_signs" (defArgs s__law_signs) (defBody s__law_signs) (defScope s__law_signs) .none kV13 dc13 pm13 an13 cd13 ct13), sl13⟩) (c13 : PySem.W.codeIn K cd13 "_law_signs" = true) (k13 : PySem.W.keepIn K (.ref f13) = true)
    (a14 : PySem.W.nsIn K mainGlobals "_law_word" = some (some (.ref f14))) (l14 : K.lookup f14 = some ⟨oc14, od14, .func (PySem.W.fnOf "_law_word" "_law_word" (defArgs s__law_word) (defBody s__law_word) (defScope s__law_word) .none kV14 dc14 pm14 an14 cd14 ct14), sl14⟩) (c14 : PySem.W.codeIn K cd14 "_law_word" = true) (k14 : PySem.W.keepIn K (.ref f14) = true)
    (a15 : PySem.W.nsIn K mainGlobals "_law_text" = some (some (.ref f15))) (l15 : K.lookup f15 = some ⟨oc15, od15, .func (PySem.W.fnOf "_law_text" "_law_text" (defArgs s__law_text) (defBody s__law_text) (defScope s__law_text) .none kV15 dc15 pm15 an15 cd15 ct15), sl15⟩) (c15 : PySem.W.codeIn K cd15 "_law_text" = true) (k15 : PySem.W.keepIn K (.ref f15) = true)
    (a16 : PySem.W.nsIn K mainGlobals "law" = some (some (.ref f16))) (l16 : K.lookup f16 = some ⟨oc16, od16, .func (PySem.W.fnOf "law" "law" (defArgs s_law) (defBody s_law) (defScope s_law) .none kV16 dc16 pm16 an16 cd16 ct16), sl16⟩) (c16 : PySem.W.codeIn K cd16 "law" = true) (k16 : PySem.W.keepIn K (.ref f16) = true)
    (cg0 : PySem.W.nsIn K mainGlobals "LONGEST_STRING" = some (some (.int 100 t1)))
    (cg1 : PySem.W.nsIn K mainGlobals "MOST_FIGURES" = some (some (.int 30 t2)))
    (cg2 : PySem.W.nsIn K mainGlobals "LONGEST_NAME" = some (some (.int 20 t3)))
    (cg3 : PySem.W.nsIn K mainGlobals "FIGURES" = some (some (.str figsT t4)))
    (cg4 : PySem.W.nsIn K mainGlobals "NAME_SIGNS" = some (some (.str nameT t5)))
    (cg5 : PySem.W.nsIn K mainGlobals "ENDS_OF_WORDS" = some (some (.str endsT t6)))
    (cg6 : PySem.W.nsIn K mainGlobals "FLAGS" = some (some (.ref aF)))
    (cg7 : PySem.W.nsIn K mainGlobals "SPECIAL_NAMES" = some (some (.ref aS)))
    (lF : K.lookup aF = some ⟨.type "dict", none, .dict #[⟨PyData.keyHash w.params "#t", .str "#t" u1, .bool true⟩, ⟨PyData.keyHash w.params "#f", .str "#f" u2, .bool false⟩] n, #[]⟩) (loF : (aF == sysModules) = false)
    (lS : K.lookup aS = some ⟨.type "tuple", ddS, .seq #[.str "..." u3, .str "_" u4] m, slS⟩)
    (z0 : PySem.W.nsIn K mainGlobals "len" = some none)
    (z1 : PySem.W.nsIn K mainGlobals "all" = some none)
    (z2 : PySem.W.nsIn K mainGlobals "int" = some none)
    (z3 : PySem.W.nsIn K mainGlobals "list" = some none)
    (z4 : PySem.W.nsIn K mainGlobals "range" = some none)
    (z5 : PySem.W.nsIn K mainGlobals "isinstance" = some none)
    (z6 : PySem.W.nsIn K mainGlobals "bool" = some none)
    (z7 : PySem.W.nsIn K mainGlobals "str" = some none)
    (z8 : PySem.W.nsIn K mainGlobals "tuple" = some none)
    : ∃ fd : FuncData, (∀ (s : Shared) (v : Value), BindsTo s fd ⟨[v], []⟩ [("script", v)]) ∧ ∀ base : Heap, K.In base → base.Ns mainGlobals mg → FnOk l.prog w K mg base CX0 6 fa fd ["script"] (spLaw K) := by
  have e := hfa.symm.trans (PySem.W.mg_of X G a16)
  cases e
  have T : TopF K w mg aF aS #[⟨PyData.keyHash w.params "#t", .str "#t" u1, .bool true⟩, ⟨PyData.keyHash w.params "#f", .str "#f" u2, .bool false⟩] n t1 t2 t3 t4 t5 t6 :=
    { g_LONGEST_STRING := PySem.W.mg_of X G cg0, g_MOST_FIGURES := PySem.W.mg_of X G cg1, g_LONGEST_NAME := PySem.W.mg_of X G cg2, g_FIGURES := PySem.W.mg_of X G cg3, g_NAME_SIGNS := PySem.W.mg_of X G cg4, g_ENDS_OF_WORDS := PySem.W.mg_of X G cg5,
      g_FLAGS := PySem.W.mg_of X G cg6, flags := ⟨lF, ⟨⟨_, _, rfl, rfl⟩, ⟨_, _, rfl, rfl⟩, trivial⟩, loF⟩, flag := flag_mk lF, g_SPECIAL_NAMES := PySem.W.mg_of X G cg7,
      special := fun H => .inr ⟨_, _, _, lS, rfl, rfl, (by show 2 ≤ sizeLine; decide), .cons ⟨_, rfl⟩ (.cons ⟨_, rfl⟩ .nil)⟩,
      n_len := PySem.W.mg_none_of X G z0, n_all := PySem.W.mg_none_of X G z1, n_int := PySem.W.mg_none_of X G z2, n_list := PySem.W.mg_none_of X G z3, n_range := PySem.W.mg_none_of X G z4, n_isinstance := PySem.W.mg_none_of X G z5, n_bool := PySem.W.mg_none_of X G z6, n_str := PySem.W.mg_none_of X G z7, n_tuple := PySem.W.mg_none_of X G z8 }
  have F0 := fun_mk (st := s_are_figures) l0 c0 k0
  have F1 := fun_mk (st := s_is_number_word) l1 c1 k1
  have F2 := fun_mk (st := s_is_name) l2 c2 k2
  have F3 := fun_mk (st := s_sort_of) l3 c3 k3
  have F4 := fun_mk (st := s_end_of_line) l4 c4 k4
  have F5 := fun_mk (st := s_string_token) l5 c5 k5
  have F6 := fun_mk (st := s_word_token) l6 c6 k6
  have F7 := fun_mk (st := s_tokens) l7 c7 k7
  have F8 := fun_mk (st := s__law_draws) l8 c8 k8
  have F9 := fun_mk (st := s__law_take) l9 c9 k9
  have F10 := fun_mk (st := s__law_same) l10 c10 k10
  have F11 := fun_mk (st := s__law_sort) l11 c11 k11
  have F12 := fun_mk (st := s__law_tokens) l12 c12 k12
  have F13 := fun_mk (st := s__law_signs) l13 c13 k13
  have F14 := fun_mk (st := s__law_word) l14 c14 k14
  have F15 := fun_mk (st := s__law_text) l15 c15 k15
  have F16 := fun_mk (st := s_law) l16 c16 k16
  have b0 := F0.binds (ps := ["text"]) fun _ _ _ _ _ _ us hl => match us, hl with | [_], _ => rfl
  have b1 := F1.binds (ps := ["word"]) fun _ _ _ _ _ _ us hl => match us, hl with | [_], _ => rfl
  have b2 := F2.binds (ps := ["text"]) fun _ _ _ _ _ _ us hl => match us, hl with | [_], _ => rfl
  have b3 := F3.binds (ps := ["word"]) fun _ _ _ _ _ _ us hl => match us, hl with | [_], _ => rfl
  have b4 := F4.binds (ps := ["text", "start"]) fun _ _ _ _ _ _ us hl => match us, hl with | [_, _], _ => rfl
  have b5 := F5.binds (ps := ["text", "start"]) fun _ _ _ _ _ _ us hl => match us, hl with | [_, _], _ => rfl
  have b6 := F6.binds (ps := ["text", "start"]) fun _ _ _ _ _ _ us hl => match us, hl with | [_, _], _ => rfl
  have b7 := F7.binds (ps := ["text"]) fun _ _ _ _ _ _ us hl => match us, hl with | [_], _ => rfl
  have b8 := F8.binds (ps := ["script", "count"]) fun _ _ _ _ _ _ us hl => match us, hl with | [_, _], _ => rfl
  have b9 := F9.binds (ps := ["draws", "limit"]) fun _ _ _ _ _ _ us hl => match us, hl with | [_, _], _ => rfl
  have b10 := F10.binds (ps := ["found", "due"]) fun _ _ _ _ _ _ us hl => match us, hl with | [_, _], _ => rfl
  have b11 := F11.binds (ps := ["word"]) fun _ _ _ _ _ _ us hl => match us, hl with | [_], _ => rfl
  have b12 := F12.binds (ps := ["text"]) fun _ _ _ _ _ _ us hl => match us, hl with | [_], _ => rfl
  have b13 := F13.binds (ps := []) fun _ _ _ _ _ _ us hl => match us, hl with | [], _ => rfl
  have b14 := F14.binds (ps := ["draws"]) fun _ _ _ _ _ _ us hl => match us, hl with | [_], _ => rfl
  have b15 := F15.binds (ps := ["draws"]) fun _ _ _ _ _ _ us hl => match us, hl with | [_], _ => rfl
  refine ⟨PySem.W.fnOf "law" "law" (defArgs s_law) (defBody s_law) (defScope s_law) .none kV16 dc16 pm16 an16 cd16 ct16, fun s v => .of_eq rfl, fun base _ _ => ?_⟩
  have C0 : Cal l.prog w K mg base "are_figures" _ _ _ := ⟨_, _, ok_are_figures (P := l.prog) (w := w) (base := base) T F0, PySem.W.mg_of X G a0, k0, b0⟩
  have C1 : Cal l.prog w K mg base "is_number_word" _ _ _ := ⟨_, _, ok_is_number_word (P := l.prog) (w := w) (base := base) T F1 C0, PySem.W.mg_of X G a1, k1, b1⟩
  have C2 : Cal l.prog w K mg base "is_name" _ _ _ := ⟨_, _, ok_is_name (P := l.prog) (w := w) (base := base) T F2, PySem.W.mg_of X G a2, k2, b2⟩
  have C3 : Cal l.prog w K mg base "sort_of" _ _ _ := ⟨_, _, ok_sort_of (P := l.prog) (w := w) (base := base) T F3 C1 C2, PySem.W.mg_of X G a3, k3, b3⟩
  have C4 : Cal l.prog w K mg base "end_of_line" _ _ _ := ⟨_, _, ok_end_of_line (P := l.prog) (w := w) (base := base) T F4, PySem.W.mg_of X G a4, k4, b4⟩
  have C5 : Cal l.prog w K mg base "string_token" _ _ _ := ⟨_, _, ok_string_token (P := l.prog) (w := w) (base := base) T F5 C4, PySem.W.mg_of X G a5, k5, b5⟩
  have C6 : Cal l.prog w K mg base "word_token" _ _ _ := ⟨_, _, ok_word_token (P := l.prog) (w := w) (base := base) T F6 C3, PySem.W.mg_of X G a6, k6, b6⟩
  have C7 : Cal l.prog w K mg base "tokens" _ _ _ := ⟨_, _, ok_tokens (P := l.prog) (w := w) (base := base) T F7 C4 C5 C6, PySem.W.mg_of X G a7, k7, b7⟩
  have C8 : Cal l.prog w K mg base "_law_draws" _ _ _ := ⟨_, _, ok__law_draws (P := l.prog) (w := w) (base := base) T F8, PySem.W.mg_of X G a8, k8, b8⟩
  have C9 : Cal l.prog w K mg base "_law_take" _ _ _ := ⟨_, _, ok__law_take (P := l.prog) (w := w) (base := base) T F9, PySem.W.mg_of X G a9, k9, b9⟩
  have C10 := all_same (P := l.prog) (w := w) (base := base) T F10 (PySem.W.mg_of X G a10) b10 3
  have C11 : Cal l.prog w K mg base "_law_sort" _ _ _ := ⟨_, _, ok__law_sort (P := l.prog) (w := w) (base := base) T F11, PySem.W.mg_of X G a11, k11, b11⟩
  have C12 : Cal l.prog w K mg base "_law_tokens" _ _ _ := ⟨_, _, ok__law_tokens (P := l.prog) (w := w) (base := base) T F12 C11, PySem.W.mg_of X G a12, k12, b12⟩
  have C13 : Cal l.prog w K mg base "_law_signs" _ _ _ := ⟨_, _, ok__law_signs (P := l.prog) (w := w) (base := base) T F13, PySem.W.mg_of X G a13, k13, b13⟩
  have C14 : Cal l.prog w K mg base "_law_word" _ _ _ := ⟨_, _, ok__law_word (P := l.prog) (w := w) (base := base) T F14 C9, PySem.W.mg_of X G a14, k14, b14⟩
  have C15 : Cal l.prog w K mg base "_law_text" _ _ _ := ⟨_, _, ok__law_text (P := l.prog) (w := w) (base := base) T F15 C9 C13 C14, PySem.W.mg_of X G a15, k15, b15⟩
  exact ok_law T F16 C2 C7 C8 C10 C12 C14 C15
theorem walk {l : PySem.W.OpenLaw} {q : Program} {loose : List PySem.Str} {XP : (PySem.Str → Option Value) → Heap → Prop} {YP : World → Heap → Prop} {d : DefRec} {K : Params → PySem.W.Frag} (hn : l.most = some 63) (hdf : d.params.defaults = [])
    (hY : ∀ (w : World) (h : Heap), YP w h → (K w.params).In h)
    (F : ∀ (w : World) (mg : PySem.Str → Option Value) (fa : Addr) (h : Heap), (K w.params).In h → h.Ns mainGlobals mg → mg d.name = some (.ref fa) →
      ∃ fd : FuncData, (∀ (s : Shared) (u : Value), BindsTo s fd ⟨[u], []⟩ [("script", u)]) ∧ ∀ base : Heap, (K w.params).In base → base.Ns mainGlobals mg → FnOk l.prog w (K w.params) mg base CX0 6 fa fd ["script"] (spLaw (K w.params))) :
    PySem.W.WalkO q loose XP YP l.row.toRowW d [] (fun f vs => PySem.call f vs) :=
  L2.walk_of (n := 63) (k := 6) (x := "script") (CX := fun _ => CX0) (sp := fun w => spLaw (K w.params)) hn (by decide) hdf ⟨rfl, by decide, by decide⟩ hY F (fun _ _ a ns hl _ hS => ⟨a, ns, rfl, hS, hl, fun _ => rfl⟩) fun _ _ _ _ _ z => z
end K1
open PySem PySem.W PyProof.Rows
set_option maxRecDepth 100000 in
set_option maxHeartbeats 0 in
theorem PySem.Challenge.cw_wherewritten_k01_tokens_and_names_holds : PySem.Challenge.rw_wherewritten_k01_tokens_and_names.Holds := by
  w_on; o_law; k_head; (case hw => w_witness2)
  k_fill
  refine K1.walk (l := PySem.Challenge.rw_wherewritten_k01_tokens_and_names) rfl rfl (fun w h Y => PySem.W.kIn_of Y) ?F
  case F =>
    intro w mg fa h KX G hmg
    refine' K1.all_mk KX G hmg ?a0 ?l0 ?c0 ?k0 ?a1 ?l1 ?c1 ?k1 ?a2 ?l2 ?c2 ?k2 ?a3 ?l3 ?c3 ?k3 ?a4 ?l4 ?c4 ?k4 ?a5 ?l5 ?c5 ?k5 ?a6 ?l6 ?c6 ?k6 ?a7 ?l7 ?c7 ?k7 ?a8 ?l8 ?c8 ?k8 ?a9 ?l9 ?c9 ?k9 ?a10 ?l10 ?c10 ?k10 ?a11 ?l11 ?c11 ?k11 ?a12 ?l12 ?c12 ?k12 ?a13 ?l13 ?c13 ?k13 ?a14 ?l14 ?c14 ?k14 ?a15 ?l15 ?c15 ?k15 ?a16 ?l16 ?c16 ?k16 ?cg0 ?cg1 ?cg2 ?cg3 ?cg4 ?cg5 ?cg6 ?cg7 ?lF ?loF ?lS ?z0 ?z1 ?z2 ?z3 ?z4 ?z5 ?z6 ?z7 ?z8
    (case a0 => k_is)
    (case l0 => k_is)
    (case c0 => k_is)
    (case k0 => k_is)
    (case a1 => k_is)
    (case l1 => k_is)
    (case c1 => k_is)
    (case k1 => k_is)
    (case a2 => k_is)
    (case l2 => k_is)
    (case c2 => k_is)
    (case k2 => k_is)
    (case a3 => k_is)
    (case l3 => k_is)
    (case c3 => k_is)
    (case k3 => k_is)
    (case a4 => k_is)
    (case l4 => k_is)
    (case c4 => k_is)
    (case k4 => k_is)
    (case a5 => k_is)
    (case l5 => k_is)
    (case c5 => k_is)
    (case k5 => k_is)
    (case a6 => k_is)
    (case l6 => k_is)
    (case c6 => k_is)
    (case k6 => k_is)
    (case a7 => k_is)
    (case l7 => k_is)
    (case c7 => k_is)
    (case k7 => k_is)
    (case a8 => k_is)
    (case l8 => k_is)
    (case c8 => k_is)
    (case k8 => k_is)
    (case a9 => k_is)
    (case l9 => k_is)
    (case c9 => k_is)
    (case k9 => k_is)
    (case a10 => k_is)
    (case l10 => k_is)
    (case c10 => k_is)
    (case k10 => k_is)
    (case a11 => k_is)
    (case l11 => k_is)
    (case c11 => k_is)
    (case k11 => k_is)
    (case a12 => k_is)
    (case l12 => k_is)
    (case c12 => k_is)
    (case k12 => k_is)
    (case a13 => k_is)
    (case l13 => k_is)
    (case c13 => k_is)
    (case k13 => k_is)
    (case a14 => k_is)
    (case l14 => k_is)
    (case c14 => k_is)
    (case k14 => k_is)
    (case a15 => k_is)
    (case l15 => k_is)
    (case c15 => k_is)
    (case k15 => k_is)
    (case a16 => k_is)
    (case l16 => k_is)
    (case c16 => k_is)
    (case k16 => k_is)
    (case cg0 => k_is)
    (case cg1 => k_is)
    (case cg2 => k_is)
    (case cg3 => k_is)
    (case cg4 => k_is)
    (case cg5 => k_is)
    (case cg6 => k_is)
    (case cg7 => k_is)
    (case lF => k_is)
    (case loF => first | rfl | decide | k_is)
    (case lS => k_is)
    (case z0 => k_is)
    (case z1 => k_is)
    (case z2 => k_is)
    (case z3 => k_is)
    (case z4 => k_is)
    (case z5 => k_is)
    (case z6 => k_is)
    (case z7 => k_is)
    (case z8 => k_is)
