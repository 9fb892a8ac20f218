import PyProof.Rows.All
import Wide.All
import OpenK.AllK
import Wide.FinOn
import PyProof.EqAt
import PyProof.EqKinds
import PyProof.TupleCall
import KE.KStateDown
import KE.KDictKeyed
import KE.KDictWalk
import KE.GoesEnum
import KE.GoesNew
import KE.KUnpackStar
import KE.DataFind
import HandS.ForMost
import HandS.ForExc
import HandS.Codes
import HandS.Defaults
import HandS.CallLocal
import HandS.DictComp
import HandS.NoneIn
import HandS.TupAny
import HandS.TupMul
import HandS.Deep
import HandS.IsInst
import HandS.ExcInit
import HandS.OwnEq
import HandS.More
import HandS.Zip
import HandS.Style
import HandS.Small
import HandS.WrittenGet
import HandS.RaiseMore
import HandS.Conv
import HandS.MakeKwOnly
import HandS.Walk
import HandS.Evl
import HandS.Steps
import HandS.Head0
import HandS.Head1
import HandS.Head2
import HandS.HeadEnd
import HandS.HeadHook1
import HandS.HeadHook2
import HandS.HeadHook3
import HandS.HeadHook4
import HandS.HeadWalk
import PySem.Challenge.RW_papertongue_k09_whole_plain_form_is_one
set_option Elab.async false
set_option linter.all false
set_option maxRecDepth 100000
set_option maxHeartbeats 4000000
/-! The mathematics: the program's side as plain functions, and that reading what was written gives the same. -/
namespace Pk
open PySem

/-! ### rows as data -/
inductive Part where
  | z | n (i : Int) | s (x : Str) | t (xs : List Str)
  deriving DecidableEq
abbrev Row := List Part

def sSmall : Str := "abcdefghijklmnopqrstuvwxyz"
def sGreat : Str := "ABCDEFGHIJKLMNOPQRSTUVWXYZ"
def sFig : Str := "0123456789"
def sSigns : Str := "abcdefghijklmnopqrstuvwxyzABCDEFGHIJKLMNOPQRSTUVWXYZ0123456789.,"
def allIn (a z : Str) : Bool := z.cps.toList.all fun c => decide (c ∈ a.cps.toList)
def nameM (z : Str) : Bool := decide (1 ≤ z.length) && decide (z.length ≤ 8) && allIn sSmall z
def wordM (z : Str) : Bool := decide (1 ≤ z.length) && decide (z.length ≤ 12) && allIn sSigns z
def tl (z : Str) : Str := ⟨(z.cps.toList.drop 1).toArray⟩
def hd (z : Str) : Nat := z.cps.toList.headD 0
abbrev sMarks : Str := "@#~&"
abbrev sTwo : Str := "~&"
abbrev brs : List Str := ["{", "}", "[", "]"]
def tokenM (z : Str) : Bool :=
  if z.length = 0 then false else if hd z ∈ sMarks.cps.toList then nameM (tl z) else if hd z = 94 then wordM (tl z) else decide (z ∈ brs) || wordM z
def pairTab : List (Str × Str) := [("{", "}"), ("[", "]")]
def pairM (z : Str) : Option Str := pairTab.lookup z
def okGo : Option Str → List Str → Bool
  | o, [] => o.isNone
  | o, z :: r => tokenM z && (match pairM z with
    | some _ => o.isNone && okGo (some z) r
    | none => if z ∈ brs then (match o with
      | none => false
      | some b => decide (pairM b = some z) && okGo none r) else okGo o r)
def tokM (xs : List Str) : Bool := okGo none xs && decide (xs.length ≤ 40)
def tokensM (plain : Bool) (xs : List Str) : Bool := tokM xs && (!plain || !xs.any fun z => decide (z ∈ brs))
def bareM (xs : List Str) : Bool := tokensM true xs && !xs.any fun z => decide (hd z ∈ sTwo.cps.toList)

def numTab : List (Str × (Int × Int)) := [("6", (0, 6)), ("4", (0, 4)), ("2", (0, 2)), ("3", (0, 3)), ("depth", (1, 3)), ("lines", (1, 6)), ("columns", (1, 4))]
abbrev aligns : List Str := ["left", "right", "middle"]
abbrev counteds : List Str := ["head", "table", "figure", "foot", "end", "item"]
abbrev ways : List Str := ["1", "a", "A"]
abbrev sorts : List Str := ["dot", "num"]
abbrev kinds : List Str := ["pages", "screen", "plain"]
def onS (f : Str → Bool) : Part → Bool
  | .s x => f x
  | _ => false
def onT (f : List Str → Bool) : Part → Bool
  | .t xs => f xs
  | _ => false
def onN (lo hi : Int) : Part → Bool
  | .n i => decide (lo ≤ i) && decide (i ≤ hi)
  | _ => false
def styleM (z : Str) : Bool := nameM z || decide (z = "-")
def chkTab : List (Str × (Part → Bool)) := [("name", onS nameM), ("style", onS styleM), ("align", onS fun z => decide (z ∈ aligns)), ("counted", onS fun z => decide (z ∈ counteds)), ("way", onS fun z => decide (z ∈ ways)),
  ("sort", onS fun z => decide (z ∈ sorts)), ("kind", onS fun z => decide (z ∈ kinds)), ("tokens", onT (tokensM false)), ("plain", onT (tokensM true)), ("bare", onT bareM)]
def partM (c : Str) (p : Part) : Bool := match numTab.lookup c with
  | some r => onN r.1 r.2 p
  | none => (match chkTab.lookup c with
    | some f => f p
    | none => false)
def formTab : List (Str × List Str) := [("style", ["name", "6", "4", "2", "align"]), ("counter", ["counted", "way", "3"]), ("head", ["depth", "bare"]), ("para", ["style", "tokens"]), ("item", ["depth", "sort", "tokens"]),
  ("figure", ["lines", "bare"]), ("table", ["columns", "bare"]), ("row", []), ("cell", ["columns", "columns", "plain"]), ("close", []), ("contents", ["depth"]), ("figures", []), ("index", []), ("endnotes", []), ("break", []),
  ("include", ["name"]), ("when", ["kind"]), ("done", [])]
abbrev tokened : List Str := ["tokens", "plain", "bare"]
def hasTok (form : List Str) : Bool := match form.getLast? with
  | none => false
  | some c => decide (c ∈ tokened)
def partsM : List Str → List Part → Bool
  | [], [] => true
  | c :: cs, p :: ps => partM c p && partsM cs ps
  | _, _ => false
def cntM (w : Str) (ps : List Part) : Bool := if w = "counter" then (match ps with
    | [.s k, _, .n i] => if k = "head" then decide (0 < i) else !decide (k = "item") || decide (i = 0)
    | _ => false) else true
def rowM : Row → Bool
  | .s w :: ps => (match formTab.lookup w with
    | some form => partsM form ps && cntM w ps
    | none => false)
  | _ => false

/-! ### numbers -/
def val (z : Str) : Nat := z.cps.toList.foldl (fun a c => a * 10 + (c - 48)) 0
def canon (z : Str) : Bool := decide (1 ≤ z.length) && allIn sFig z && (!decide (hd z = 48) || decide (z = "0"))
def numberM (z : Str) : Part := if canon z && decide (z.length ≤ 9) then .n (val z : Nat) else .z
def partIn (c z : Str) : Part := if (numTab.lookup c).isSome then numberM z else .s z
def rowIn : List Str → Option Row
  | [] => none
  | w :: rest => (match formTab.lookup w with
    | none => none
    | some form =>
      if rest.length < (if hasTok form then form.length - 1 else form.length) then none
      else if hasTok form = false ∧ form.length < rest.length then none
      else
        let row : Row := .s w :: ((form.zip (rest.take (if hasTok form then form.length - 1 else form.length))).map (fun cz => partIn cz.1 cz.2) ++ if hasTok form then [.t (rest.drop (form.length - 1))] else [])
        if rowM row then some row else none)
def partWords : Part → List Str
  | .z => ["None"]
  | .n i => [Str.ofString (toString i)]
  | .s x => [x]
  | .t xs => xs
def rowWords (r : Row) : List Str := r.flatMap partWords

/-! ### the shape -/
abbrev Rk := Str × Str × Option Int
structure Sh where
  ruled : List Rk
  begun : Bool
  whens : Int
  columns : Option Int
  lines : Int
  cover : List (Int × Int)
def sh0 : Sh := ⟨[], false, 0, none, 0, []⟩
def rkOf (w : Str) (ps : List Part) : Option Rk := match ps with
  | .s nm :: rest => some (w, nm, if nm = "head" ∧ w = "counter" then (match rest.getLast? with
    | some (.n i) => some i
    | _ => none) else none)
  | _ => none
def freeM (s : Sh) (c : Int) : List Int := ((List.range c.toNat).map fun k => ((k : Nat) : Int)).filter fun c => !(s.cover.map (·.1)).contains c
def placedM (s : Sh) (c down across : Int) : Option Sh := match freeM s c with
  | [] => none
  | f :: _ =>
    let wide := (List.range across.toNat).map fun k => f + ((k : Nat) : Int)
    if f + across - 1 ≥ c then none else if wide.any fun c => (s.cover.map (·.1)).contains c then none
    else some { s with cover := s.cover ++ wide.map fun c => (c, down) }
def lineM (s : Sh) (c : Int) (w : Str) (ps : List Part) : Option Sh :=
  if w = "row" then (if s.lines + 1 ≤ 8 then some { s with lines := s.lines + 1, cover := (s.cover.filter fun q => decide (1 < q.2)).map fun q => (q.1, q.2 - 1) } else none)
  else if w = "cell" then (if 0 < s.lines then (match ps with
    | [.n d, .n a, .t _] => placedM s c d a
    | _ => none) else none)
  else if s.lines = 0 then none else if s.cover.any fun q => decide (1 < q.2) then none else some { s with columns := none }
def whenM (s : Sh) : Option Sh := if 0 ≤ s.whens then (if s.whens ≤ 3 then some s else none) else none
def takesM (s : Sh) : Row → Option Sh
  | .s w :: ps =>
    if w = "style" ∨ w = "counter" then (match rkOf w ps with
      | some k => if s.begun = true then none else if k ∈ s.ruled then none else some { s with ruled := s.ruled ++ [k] }
      | none => none)
    else
      let s1 : Sh := { s with begun := true }
      if w = "row" ∨ w = "cell" ∨ w = "close" then (match s.columns with
        | none => none
        | some c => lineM s1 c w ps)
      else if s.columns.isSome then none
      else if w = "table" then (match ps with
        | .n c :: _ => whenM { s1 with columns := some c, lines := 0, cover := [] }
        | _ => none)
      else if w = "when" then whenM { s1 with whens := s.whens + 1 }
      else if w = "done" then whenM { s1 with whens := s.whens - 1 }
      else whenM s1
  | _ => none
def openM (s : Sh) : Bool := s.columns.isSome || decide (0 < s.whens)

/-! ### texts -/
/-- rows read one behind another -/
def readGo : Sh → List Row → List (List Str) → Option (Sh × List Row)
  | s, acc, [] => some (s, acc)
  | s, acc, ws :: r => match rowIn ws with
    | none => none
    | some row => (match takesM s row with
      | none => none
      | some s' => if acc.length = 80 then none else readGo s' (acc ++ [row]) r)
def readM (kept : List (List Str)) : Option (List Row) := match readGo sh0 [] kept with
  | none => none
  | some (s, rows) => if openM s then none else some rows
/-- rows that stand one behind another -/
def standGo : Sh → List Row → Option Sh
  | s, [] => some s
  | s, r :: rs => if rowM r then (match takesM s r with
    | none => none
    | some s' => standGo s' rs) else none
def standM (rows : List Row) : Bool := match standGo sh0 rows with
  | none => false
  | some s => !openM s

abbrev bl : Str := ⟨#[32]⟩
abbrev lf : Str := ⟨#[10]⟩
abbrev dots : Str := ".."
def wordsIn (z : Str) : List Str := (Txt.split z bl).filter fun x => !decide (x.length = 0)
def keep (ws : List Str) : Bool := match ws with
  | [] => false
  | w :: _ => !decide (w = dots)
def kept (z : Str) : List (List Str) := ((Txt.split z lf).map wordsIn).filter keep
def lineM' (ws : List Str) : Str := Txt.join bl ws
def formT (kws : List (List Str)) : Str := Txt.join lf (kws.map fun ws => Txt.join bl ws)
def form (rows : List Row) : Str := formT (rows.map rowWords)
def readT (z : Str) : Option (List Row) := readM (kept z)
end Pk
set_option Elab.async false
set_option linter.all false
set_option maxRecDepth 100000
set_option maxHeartbeats 4000000
namespace Pk
open PySem

theorem snocInd {α : Type} {P : List α → Prop} (nil : P []) (snoc : ∀ l a, P l → P (l ++ [a])) : ∀ l, P l := by
  intro l
  have key : ∀ r : List α, P r.reverse := by
    intro r
    induction r with
    | nil => exact nil
    | cons a r ih => rw [List.reverse_cons]; exact snoc _ _ ih
  have := key l.reverse
  rwa [List.reverse_reverse] at this

/-! ### numbers -/
def valL (l : List Nat) : Nat := l.foldl (fun a c => a * 10 + (c - 48)) 0
theorem valL_snoc (l : List Nat) (c : Nat) : valL (l ++ [c]) = valL l * 10 + (c - 48) := by
  unfold valL; rw [List.foldl_append]; rfl
theorem sFig_eq : sFig.cps.toList = [48, 49, 50, 51, 52, 53, 54, 55, 56, 57] := by decide +kernel
theorem fig_mem {c : Nat} (h : c ∈ sFig.cps.toList) : 48 ≤ c ∧ c < 58 := by
  rw [sFig_eq] at h
  simp only [List.mem_cons, List.not_mem_nil, or_false] at h
  omega
theorem dig_one {c : Nat} (h : 48 ≤ c ∧ c < 58) : (Nat.toDigits 10 (c - 48)).map Char.toNat = [c] := by
  obtain ⟨h1, h2⟩ := h
  have : c = 48 ∨ c = 49 ∨ c = 50 ∨ c = 51 ∨ c = 52 ∨ c = 53 ∨ c = 54 ∨ c = 55 ∨ c = 56 ∨ c = 57 := by omega
  rcases this with h | h | h | h | h | h | h | h | h | h <;> subst h <;> decide +kernel
theorem valL_pos (l : List Nat) : (∀ c ∈ l, 48 ≤ c ∧ c < 58) → l ≠ [] → l.headD 0 ≠ 48 → 0 < valL l := by
  refine snocInd (P := fun l => (∀ c ∈ l, 48 ≤ c ∧ c < 58) → l ≠ [] → l.headD 0 ≠ 48 → 0 < valL l) ?_ ?_ l
  · intro _ h _; exact absurd rfl h
  · intro l c ih hm _ hh
    rw [valL_snoc]
    cases l with
    | nil =>
      have hc := hm c (by simp)
      have h2 : c ≠ 48 := hh
      show 0 < 0 * 10 + (c - 48)
      omega
    | cons a r =>
      have := ih (fun c hc => hm c (List.mem_append_left _ hc)) (by simp) hh
      omega
theorem valL_lt (l : List Nat) : (∀ c ∈ l, 48 ≤ c ∧ c < 58) → valL l < 10 ^ l.length := by
  refine snocInd (P := fun l => (∀ c ∈ l, 48 ≤ c ∧ c < 58) → valL l < 10 ^ l.length) ?_ ?_ l
  · intro _; decide
  · intro l c ih hm
    have h1 := ih fun c hc => hm c (List.mem_append_left _ hc)
    have h2 := hm c (by simp)
    rw [valL_snoc, List.length_append, List.length_singleton, Nat.pow_succ]
    omega
theorem digs (l : List Nat) : (∀ c ∈ l, 48 ≤ c ∧ c < 58) → l ≠ [] → (l.headD 0 = 48 → l = [48]) → (Nat.toDigits 10 (valL l)).map Char.toNat = l := by
  refine snocInd (P := fun l => (∀ c ∈ l, 48 ≤ c ∧ c < 58) → l ≠ [] → (l.headD 0 = 48 → l = [48]) → (Nat.toDigits 10 (valL l)).map Char.toNat = l) ?_ ?_ l
  · intro _ h _; exact absurd rfl h
  · intro l c ih hm _ hh
    have hc := hm c (by simp)
    rw [valL_snoc]
    cases l with
    | nil =>
      show (Nat.toDigits 10 (0 * 10 + (c - 48))).map Char.toNat = [c]
      rw [Nat.zero_mul, Nat.zero_add]
      exact dig_one hc
    | cons a r =>
      have hne : (a :: r).headD 0 ≠ 48 := fun e => by
        have := hh e
        simp at this
      have hma : ∀ c ∈ a :: r, 48 ≤ c ∧ c < 58 := fun c hc => hm c (List.mem_append_left _ hc)
      have hp := valL_pos (a :: r) hma (by simp) hne
      have e : valL (a :: r) * 10 + (c - 48) = 10 * valL (a :: r) + (c - 48) := by omega
      rw [e, ← Nat.toDigits_append_toDigits (by decide) hp (by omega), List.map_append, ih hma (by simp) (fun z => absurd z hne), dig_one hc]
theorem ext_l {a b : Str} (h : a.cps.toList = b.cps.toList) : a = b := by
  cases a; cases b
  simp only at h
  rw [Array.toList_inj.mp h]
theorem len_l (z : Str) : z.cps.toList.length = z.length := Array.length_toList
theorem canon_eq {z : Str} (h : canon z = true) : Str.ofString (toString ((val z : Nat) : Int)) = z := by
  unfold canon at h
  simp only [Bool.and_eq_true, decide_eq_true_eq, Bool.or_eq_true, Bool.not_eq_true', decide_eq_false_iff_not] at h
  obtain ⟨⟨h1, h2⟩, h3⟩ := h
  refine ext_l ?_
  rw [PySem.W.KIN.signs_num (val z)]
  have hm : ∀ c ∈ z.cps.toList, 48 ≤ c ∧ c < 58 := fun c hc => by
    have := List.all_eq_true.mp h2 c hc
    exact fig_mem (of_decide_eq_true this)
  refine digs z.cps.toList hm (fun e => ?_) fun e => ?_
  · have := len_l z
    rw [e] at this
    simp at this
    omega
  · rcases h3 with h3 | h3
    · exact absurd e h3
    · rw [h3]; decide +kernel
theorem val_lt {z : Str} (h : canon z = true) : val z < 10 ^ z.length := by
  unfold canon at h
  simp only [Bool.and_eq_true, decide_eq_true_eq] at h
  have := valL_lt z.cps.toList fun c hc => fig_mem (of_decide_eq_true (List.all_eq_true.mp h.1.2 c hc))
  rwa [len_l] at this
theorem number_read {z : Str} (h : canon z = true) (hl : z.length ≤ 9) : PySem.intText? z = some ((val z : Nat) : Int) := by
  have e := canon_eq h
  have h1 := val_lt h
  have h2 : 10 ^ z.length ≤ 10 ^ 9 := Nat.pow_le_pow_right (by decide) hl
  rw [← e]
  have h3 : (val (Str.ofString (toString ((val z : Nat) : Int)))) = val z := by rw [e]
  rw [h3]
  exact PySem.W.KIN.num_reads (by omega) (by omega)
theorem numberM_n {z : Str} {i : Int} (h : numberM z = .n i) : Str.ofString (toString i) = z ∧ canon z = true ∧ z.length ≤ 9 ∧ i = (val z : Nat) := by
  unfold numberM at h
  split at h
  · rename_i c
    simp only [Bool.and_eq_true, decide_eq_true_eq] at c
    injection h with e
    subst e
    exact ⟨canon_eq c.1, c.1, c.2, rfl⟩
  · cases h

/-! ### rows -/
theorem partM_z (c : Str) : partM c .z = false := by
  unfold partM
  split
  · rfl
  · split
    · rename_i f h
      simp only [chkTab, List.lookup] at h
      repeat' (split at h; · (injection h with h; subst h; rfl))
      all_goals try cases h
    · rfl
theorem partIn_words {c z : Str} (h : partM c (partIn c z) = true) : partWords (partIn c z) = [z] := by
  unfold partIn at *
  split
  · rename_i hc
    rw [if_pos hc] at h
    cases e : numberM z with
    | n i => show [Str.ofString (toString i)] = [z]; rw [(numberM_n e).1]
    | z => rw [e, partM_z] at h; cases h
    | s x => unfold numberM at e; split at e <;> cases e
    | t x => unfold numberM at e; split at e <;> cases e
  · rfl
theorem parts_words : ∀ {form : List Str} {rest : List Str} {more : List Str} {tail : List Part}, form.length = rest.length → partsM (form ++ more) ((form.zip rest).map (fun cz => partIn cz.1 cz.2) ++ tail) = true →
    ((form.zip rest).map (fun cz => partIn cz.1 cz.2)).flatMap partWords = rest
  | [], [], _, _, _, _ => rfl
  | [], _ :: _, _, _, h, _ => by simp at h
  | _ :: _, [], _, _, h, _ => by simp at h
  | c :: cs, z :: zs, more, tail, h, hp => by
    have hp2 : partM c (partIn c z) = true ∧ partsM (cs ++ more) ((cs.zip zs).map (fun cz => partIn cz.1 cz.2) ++ tail) = true := by
      simpa [partsM] using hp
    have ih := parts_words (form := cs) (rest := zs) (more := more) (tail := tail) (by simpa using h) hp2.2
    simp only [List.zip_cons_cons, List.map_cons, List.flatMap_cons]
    rw [partIn_words hp2.1, ih]
    rfl
theorem zip_left {α β : Type} : ∀ (a b : List α) (l : List β), l.length ≤ a.length → (a ++ b).zip l = a.zip l
  | _, _, [], _ => by simp
  | [], _, _ :: _, h => by simp at h
  | x :: a, b, y :: l, h => by
    show (x, y) :: (a ++ b).zip l = (x, y) :: a.zip l
    rw [zip_left a b l (by simpa using h)]
theorem rowIn_ok {ws : List Str} {r : Row} (h : rowIn ws = some r) : rowWords r = ws ∧ rowM r = true ∧ ∃ w ps, ws = w :: ps ∧ (formTab.lookup w).isSome = true := by
  cases ws with
  | nil => cases h
  | cons w rest =>
    unfold rowIn at h
    dsimp only at h
    cases hf : formTab.lookup w with
    | none => rw [hf] at h; cases h
    | some form =>
      rw [hf] at h
      dsimp only at h
      by_cases h1 : rest.length < (if hasTok form = true then form.length - 1 else form.length)
      · rw [if_pos h1] at h; cases h
      · rw [if_neg h1] at h
        by_cases h2 : hasTok form = false ∧ form.length < rest.length
        · rw [if_pos h2] at h; cases h
        · rw [if_neg h2] at h
          by_cases hr : rowM (.s w :: ((form.zip (rest.take (if hasTok form = true then form.length - 1 else form.length))).map (fun cz => partIn cz.1 cz.2) ++ if hasTok form = true then [.t (rest.drop (form.length - 1))] else [])) = true
          · rw [if_pos hr] at h
            have h := Option.some.inj h
            refine ⟨?_, h ▸ hr, w, rest, rfl, by simp [hf]⟩
            rw [← h]
            unfold rowM at hr
            dsimp only at hr
            rw [hf] at hr
            dsimp only at hr
            simp only [Bool.and_eq_true] at hr
            have hp := hr.1
            show [w] ++ List.flatMap partWords _ = _
            rw [List.flatMap_append]
            cases ht : hasTok form with
            | true =>
              rw [ht] at h1 h2 hp
              simp only [if_true] at h1 hp ⊢
              have hne : form ≠ [] := by
                intro e
                subst e
                cases ht
              obtain ⟨init, last, rfl⟩ : ∃ init last, form = init ++ [last] := ⟨form.dropLast, form.getLast hne, (List.dropLast_concat_getLast hne).symm⟩
              have hl : (init ++ [last]).length - 1 = init.length := by simp
              rw [hl] at h1 hp ⊢
              have hz : (init ++ [last]).zip (rest.take init.length) = init.zip (rest.take init.length) := by
                have e2 : (rest.take init.length).length = init.length := by rw [List.length_take]; omega
                exact zip_left _ _ _ (Nat.le_of_eq e2)
              rw [hz] at hp ⊢
              rw [parts_words (more := [last]) (tail := [.t (rest.drop init.length)]) (by rw [List.length_take]; omega) hp]
              simp only [List.flatMap_cons, List.flatMap_nil, partWords, List.append_nil]
              rw [List.take_append_drop]
              rfl
            | false =>
              rw [ht] at h1 h2 hp
              simp only [Bool.false_eq_true, if_false, true_and] at h1 h2 hp ⊢
              have hl : rest.length = form.length := by omega
              have e1 : rest.take form.length = rest := by rw [← hl]; exact List.take_length
              rw [e1] at hp ⊢
              rw [parts_words (more := []) (tail := []) hl.symm (by rw [List.append_nil, List.append_nil]; rw [List.append_nil] at hp; exact hp)]
              simp
          · rw [if_neg hr] at h; cases h
end Pk
set_option Elab.async false
set_option linter.all false
set_option maxRecDepth 100000
set_option maxHeartbeats 4000000
namespace Pk
open PySem

/-! ### parting and joining at one sign -/
theorem tjoin (sep : Str) (l : List Str) : Txt.join sep l = Str.join sep l := StrLaws.glued_eq_join sep l
theorem join_two (sep x y : Str) (r : List Str) : Str.join sep (x :: y :: r) = x ++ sep ++ Str.join sep (y :: r) := rfl
theorem app_l (a b : Str) : (a ++ b).cps.toList = a.cps.toList ++ b.cps.toList := by
  show (a.cps ++ b.cps).toList = _
  simp
theorem split_ne (x : Str) (c : Nat) : Txt.split x ⟨#[c]⟩ ≠ [] := by
  unfold Txt.split
  split
  · simp
  · split
    · simp
    · intro h
      rename_i h1 h2
      rw [StrLaws.partsBetween_eq] at h
      obtain ⟨p, r, e⟩ := StrLaws.partsFrom_ne x (⟨#[c]⟩ : Str).length 0 (Builtin.Str.occurrences x ⟨#[c]⟩ 0 x.length (x.length + 1))
      rw [e] at h
      cases h
theorem cut_first {c : Nat} {a b : List Nat} {p q : List Nat} (ha : c ∉ a) (hb : c ∉ b) (h : a ++ c :: p = b ++ c :: q) : a = b ∧ p = q := by
  induction a generalizing b with
  | nil =>
    cases b with
    | nil => simpa using h
    | cons y b =>
      simp only [List.nil_append, List.cons_append, List.cons.injEq] at h
      exact absurd (by rw [h.1]; simp) hb
  | cons x a ih =>
    cases b with
    | nil =>
      simp only [List.nil_append, List.cons_append, List.cons.injEq] at h
      exact absurd (by rw [← h.1]; simp) ha
    | cons y b =>
      simp only [List.cons_append, List.cons.injEq] at h
      obtain ⟨e1, e2⟩ := ih (by simp at ha; exact ha.2) (by simp at hb; exact hb.2) h.2
      exact ⟨by rw [h.1, e1], e2⟩
theorem join_inj {c : Nat} : ∀ {l m : List Str}, l ≠ [] → m ≠ [] → (∀ p ∈ l, c ∉ p.cps.toList) → (∀ p ∈ m, c ∉ p.cps.toList) → Str.join ⟨#[c]⟩ l = Str.join ⟨#[c]⟩ m → l = m
  | [], _, h, _, _, _, _ => absurd rfl h
  | _, [], _, h, _, _, _ => absurd rfl h
  | [x], [y], _, _, _, _, h => by rw [show x = y from h]
  | [x], y :: z :: m, _, _, hl, _, h => by
    have h2 : x.cps.toList = (y ++ ⟨#[c]⟩ ++ Str.join ⟨#[c]⟩ (z :: m)).cps.toList := congrArg (fun s : Str => s.cps.toList) h
    rw [app_l, app_l] at h2
    exact absurd (by rw [h2]; simp) (hl x (by simp))
  | x :: z :: l, [y], _, _, _, hm, h => by
    have h2 : (x ++ ⟨#[c]⟩ ++ Str.join ⟨#[c]⟩ (z :: l)).cps.toList = y.cps.toList := congrArg (fun s : Str => s.cps.toList) h
    rw [app_l, app_l] at h2
    exact absurd (by rw [← h2]; simp) (hm y (by simp))
  | x :: x2 :: l, y :: y2 :: m, _, _, hl, hm, h => by
    have h2 : (x ++ ⟨#[c]⟩ ++ Str.join ⟨#[c]⟩ (x2 :: l)).cps.toList = (y ++ ⟨#[c]⟩ ++ Str.join ⟨#[c]⟩ (y2 :: m)).cps.toList := congrArg (fun s : Str => s.cps.toList) h
    rw [app_l, app_l, app_l, app_l, List.append_assoc, List.append_assoc] at h2
    obtain ⟨e1, e2⟩ := cut_first (hl x (by simp)) (hm y (by simp)) h2
    have ih := join_inj (l := x2 :: l) (m := y2 :: m) (by simp) (by simp) (fun p hp => hl p (List.mem_cons_of_mem _ hp)) (fun p hp => hm p (List.mem_cons_of_mem _ hp)) (ext_l e2)
    rw [ext_l e1, ih]
theorem split_join {c : Nat} {l : List Str} (hl : l ≠ []) (hf : ∀ p ∈ l, c ∉ p.cps.toList) : Txt.split (Str.join ⟨#[c]⟩ l) ⟨#[c]⟩ = l :=
  join_inj (split_ne _ _) hl (StrLaws.split_free _ c) hf (StrLaws.join_split _ _)
theorem len_app (a b : Str) : (a ++ b).length = a.length + b.length := PySem.Str.length_append a b
def wt (l : List Str) : Nat := (l.map fun x => x.length + 1).sum
theorem wt_cons (x : Str) (l : List Str) : wt (x :: l) = x.length + 1 + wt l := by simp [wt]
theorem wt_join (c : Nat) : ∀ l : List Str, l ≠ [] → wt l = (Str.join ⟨#[c]⟩ l).length + 1
  | [], h => absurd rfl h
  | [x], _ => by show x.length + 1 + 0 = x.length + 1; omega
  | x :: y :: r, _ => by
    have ih := wt_join c (y :: r) (by simp)
    rw [wt_cons, ih, join_two, len_app, len_app]
    show _ = x.length + 1 + _ + 1
    omega
theorem wt_split (x : Str) (c : Nat) : wt (Txt.split x ⟨#[c]⟩) = x.length + 1 := by
  rw [wt_join c _ (split_ne x c), StrLaws.join_split]
theorem wt_filter (f : Str → Bool) : ∀ l : List Str, wt (l.filter f) ≤ wt l
  | [] => Nat.le_refl _
  | x :: l => by
    have ih := wt_filter f l
    rw [List.filter_cons]
    split
    · rw [wt_cons, wt_cons]; omega
    · rw [wt_cons]; omega
theorem wt_mem {l : List Str} {x : Str} (h : x ∈ l) : x.length + 1 ≤ wt l := by
  induction l with
  | nil => cases h
  | cons y l ih =>
    rw [wt_cons]
    rcases List.mem_cons.mp h with h | h
    · rw [h]; omega
    · have := ih h; omega
theorem wt_len (l : List Str) : l.length ≤ wt l := by
  induction l with
  | nil => exact Nat.le_refl _
  | cons y l ih => rw [wt_cons, List.length_cons]; omega
theorem wt_sum (l : List Str) : wt l = (l.map (·.length)).sum + l.length := by
  induction l with
  | nil => rfl
  | cons y l ih => rw [wt_cons, ih]; simp; omega

/-! ### the words of a line, the kept lines -/
theorem words_wt (z : Str) : wt (wordsIn z) ≤ z.length + 1 := by
  unfold wordsIn
  have h := wt_filter (fun x => !decide (x.length = 0)) (Txt.split z bl)
  rw [wt_split] at h
  exact h
theorem words_ne {z x : Str} (h : x ∈ wordsIn z) : x.length ≠ 0 := by
  have := (List.mem_filter.mp h).2
  simpa using this
theorem words_bl {z x : Str} (h : x ∈ wordsIn z) : 32 ∉ x.cps.toList := StrLaws.split_free z 32 x (List.mem_filter.mp h).1
/-- what a word's sign is: a sign of the line -/
theorem join_mem (sep : Str) : ∀ (l : List Str) (x : Str) (c : Nat), x ∈ l → c ∈ x.cps.toList → c ∈ (Str.join sep l).cps.toList
  | [], x, c, h, _ => by cases h
  | [y], x, c, h, hc => by
    have e : x = y := by simpa using h
    rw [← e]; exact hc
  | y :: z :: r, x, c, h, hc => by
    rw [join_two, app_l, app_l]
    rcases List.mem_cons.mp h with h | h
    · rw [← h]; simp [hc]
    · have := join_mem sep (z :: r) x c h hc
      simp [this]
theorem words_in {z x : Str} {c : Nat} (h : x ∈ wordsIn z) (hc : c ∈ x.cps.toList) : c ∈ z.cps.toList := by
  have := join_mem bl (Txt.split z bl) x c (List.mem_filter.mp h).1 hc
  rwa [StrLaws.join_split] at this
structure GoodWs (ws : List Str) : Prop where
  ne : ws ≠ []
  kp : keep ws = true
  len : ∀ x ∈ ws, x.length ≠ 0
  bl : ∀ x ∈ ws, 32 ∉ x.cps.toList
  lf : ∀ x ∈ ws, 10 ∉ x.cps.toList
theorem kept_good (z : Str) : ∀ ws ∈ kept z, GoodWs ws := fun ws h => by
  obtain ⟨h1, h2⟩ := List.mem_filter.mp h
  obtain ⟨line, hl, rfl⟩ := List.mem_map.mp h1
  refine ⟨fun e => ?_, h2, fun x hx => words_ne hx, fun x hx => words_bl hx, fun x hx hc => ?_⟩
  · rw [e] at h2; cases h2
  · exact StrLaws.split_free z 10 line hl (words_in hx hc)
theorem wordsIn_join {ws : List Str} (g : GoodWs ws) : wordsIn (Txt.join bl ws) = ws := by
  unfold wordsIn
  rw [tjoin, split_join g.ne g.bl, List.filter_eq_self]
  intro x hx
  simpa using g.len x hx
theorem join_sign (sep : Str) : ∀ (l : List Str) (c : Nat), c ∈ (Str.join sep l).cps.toList → c ∈ sep.cps.toList ∨ ∃ x ∈ l, c ∈ x.cps.toList
  | [], c, h => by cases h
  | [y], c, h => Or.inr ⟨y, by simp, h⟩
  | y :: z :: r, c, h => by
    rw [join_two, app_l, app_l] at h
    simp only [List.mem_append] at h
    rcases h with (h | h) | h
    · exact Or.inr ⟨y, by simp, h⟩
    · exact Or.inl h
    · rcases join_sign sep (z :: r) c h with h | ⟨x, hx, hc⟩
      · exact Or.inl h
      · exact Or.inr ⟨x, List.mem_cons_of_mem _ hx, hc⟩
theorem kept_form {K : List (List Str)} (g : ∀ ws ∈ K, GoodWs ws) : kept (formT K) = K := by
  unfold kept formT
  cases K with
  | nil => decide +kernel
  | cons k K =>
    rw [tjoin, split_join (by simp) (fun p hp => ?_)]
    · rw [List.map_map]
      have e : ((k :: K).map fun ws => Txt.join bl ws).map wordsIn = k :: K := by
        rw [List.map_map]
        have : ∀ l : List (List Str), (∀ ws ∈ l, GoodWs ws) → l.map (wordsIn ∘ fun ws => Txt.join bl ws) = l := by
          intro l
          induction l with
          | nil => intro _; rfl
          | cons a l ih =>
            intro h
            rw [List.map_cons, ih fun ws hw => h ws (List.mem_cons_of_mem _ hw)]
            show wordsIn (Txt.join bl a) :: l = a :: l
            rw [wordsIn_join (h a (by simp))]
        exact this _ g
      rw [← List.map_map, e, List.filter_eq_self]
      exact fun ws hw => (g ws hw).kp
    · obtain ⟨ws, hw, rfl⟩ := List.mem_map.mp hp
      intro hc
      rw [tjoin] at hc
      rcases join_sign bl ws 10 hc with h | ⟨x, hx, h⟩
      · simp [bl] at h
      · exact (g ws hw).lf x hx h
/-- how long all is together -/
def wts (K : List (List Str)) : Nat := (K.map wt).sum
theorem wts_map : ∀ l : List Str, wts (l.map wordsIn) ≤ wt l
  | [] => Nat.le_refl _
  | x :: l => by
    have ih := wts_map l
    have := words_wt x
    rw [wt_cons]
    show wt (wordsIn x) + wts (l.map wordsIn) ≤ _
    omega
theorem wts_filter (f : List Str → Bool) : ∀ l : List (List Str), wts (l.filter f) ≤ wts l
  | [] => Nat.le_refl _
  | x :: l => by
    have ih := wts_filter f l
    rw [List.filter_cons]
    split
    · show wt x + wts _ ≤ wt x + wts l; omega
    · show wts _ ≤ wt x + wts l; omega
theorem kept_wts (z : Str) : wts (kept z) ≤ z.length + 1 := by
  have h1 := wts_filter keep ((Txt.split z lf).map wordsIn)
  have h2 := wts_map (Txt.split z lf)
  rw [wt_split] at h2
  exact Nat.le_trans h1 h2

/-! ### rows one behind another -/
theorem readGo_ok : ∀ {kws : List (List Str)} {s s' : Sh} {acc rows : List Row}, readGo s acc kws = some (s', rows) → acc.length ≤ 80 →
    ∃ more, rows = acc ++ more ∧ more.map rowWords = kws ∧ rows.length ≤ 80 ∧ standGo s more = some s' ∧ ∀ r ∈ more, rowM r = true
  | [], s, s', acc, rows, h, ha => by
    injection h with h
    injection h with h1 h2
    subst h1 h2
    exact ⟨[], by simp, rfl, ha, rfl, by simp⟩
  | ws :: kws, s, s', acc, rows, h, ha => by
    unfold readGo at h
    cases hr : rowIn ws with
    | none => rw [hr] at h; cases h
    | some row =>
      rw [hr] at h
      dsimp only at h
      cases ht : takesM s row with
      | none => rw [ht] at h; cases h
      | some s1 =>
        rw [ht] at h
        dsimp only at h
        by_cases hl : acc.length = 80
        · rw [if_pos hl] at h; cases h
        · rw [if_neg hl] at h
          obtain ⟨more, e1, e2, e3, e4, e5⟩ := readGo_ok h (by rw [List.length_append, List.length_singleton]; omega)
          obtain ⟨w1, w2, _⟩ := rowIn_ok hr
          refine ⟨row :: more, by rw [e1]; simp, by rw [List.map_cons, w1, e2], e3, ?_, ?_⟩
          · unfold standGo
            rw [if_pos w2, ht]
            exact e4
          · intro r hr
            rcases List.mem_cons.mp hr with hr | hr
            · rw [hr]; exact w2
            · exact e5 r hr
theorem readM_ok {kws : List (List Str)} {rows : List Row} (h : readM kws = some rows) : rows.map rowWords = kws ∧ rows.length ≤ 80 ∧ standM rows = true ∧ ∀ r ∈ rows, rowM r = true := by
  unfold readM at h
  cases hg : readGo sh0 [] kws with
  | none => rw [hg] at h; cases h
  | some p =>
    obtain ⟨s, rs⟩ := p
    rw [hg] at h
    dsimp only at h
    cases ho : openM s with
    | true => rw [ho] at h; cases h
    | false =>
      rw [ho] at h
      injection h with h
      subst h
      obtain ⟨more, e1, e2, e3, e4, e5⟩ := readGo_ok hg (by simp)
      simp only [List.nil_append] at e1
      subst e1
      refine ⟨e2, e3, ?_, e5⟩
      unfold standM
      rw [e4]
      simp [ho]
/-- what is written of what is read is read as the same -/
theorem form_kept {z : Str} {rows : List Row} (h : readT z = some rows) : kept (form rows) = kept z := by
  obtain ⟨e, _⟩ := readM_ok h
  unfold form
  rw [e]
  exact kept_form (kept_good z)
theorem read_form {z : Str} {rows : List Row} (h : readT z = some rows) : readT (form rows) = some rows := by
  show readM (kept (form rows)) = some rows
  rw [form_kept h]
  exact h
theorem rows_alike {a b : Str} {ra rb : List Row} (ha : readT a = some ra) (hb : readT b = some rb) : ra = rb ↔ kept a = kept b := by
  constructor
  · intro e
    rw [← (readM_ok ha).1, ← (readM_ok hb).1, e]
  · intro e
    have h2 : readM (kept a) = some ra := ha
    rw [e] at h2
    have h3 : readM (kept b) = some rb := hb
    rw [h3] at h2
    exact (Option.some.inj h2).symm
theorem forms_alike {a b : Str} {ra rb : List Row} (ha : readT a = some ra) (hb : readT b = some rb) : form ra = form rb ↔ kept a = kept b := by
  constructor
  · intro e
    rw [← form_kept ha, ← form_kept hb, e]
  · intro e
    rw [(rows_alike ha hb).mpr e]
theorem form_len {z : Str} {rows : List Row} (h : readT z = some rows) : wts (rows.map rowWords) ≤ z.length + 1 := by
  rw [(readM_ok h).1]
  exact kept_wts z
theorem wts_join : ∀ K : List (List Str), (K.map fun ws => (Txt.join bl ws).length + 1).sum ≤ wts K + K.length
  | [] => Nat.le_refl _
  | k :: K => by
    have ih := wts_join K
    have e : (Txt.join bl k).length + 1 ≤ wt k + 1 := by
      rw [tjoin]
      cases k with
      | nil => exact Nat.le_refl _
      | cons a k => rw [wt_join 32 (a :: k) (by simp)]; exact Nat.le_succ _
    show (Txt.join bl k).length + 1 + (K.map fun ws => (Txt.join bl ws).length + 1).sum ≤ wt k + wts K + (K.length + 1)
    omega
theorem formT_len (K : List (List Str)) : (formT K).length ≤ wts K + K.length := by
  unfold formT
  rw [tjoin]
  cases K with
  | nil => exact Nat.zero_le _
  | cons k K =>
    have h1 := wts_join (k :: K)
    have h2 : ((k :: K).map fun ws => (Txt.join bl ws).length + 1).sum = (Str.join lf ((k :: K).map fun ws => Txt.join bl ws)).length + 1 := by
      have h := wt_join 10 ((k :: K).map fun ws => Txt.join bl ws) (by simp)
      unfold wt at h
      rw [List.map_map] at h
      exact h
    omega
/-- the form of what is read is no longer than this -/
theorem form_short {z : Str} {rows : List Row} (h : readT z = some rows) : (form rows).length ≤ z.length + 81 := by
  have h1 := form_len h
  have h2 := formT_len (rows.map rowWords)
  have h3 := (readM_ok h).2.1
  rw [List.length_map] at h2
  show (formT _).length ≤ _
  omega
end Pk
set_option Elab.async false
set_option linter.all false
set_option maxRecDepth 100000
set_option maxHeartbeats 4000000
/-! Short words over the hand layer: a def by its name, isinstance of built-in kinds. -/
namespace Pk
open PySem PySem.Spec PyProof.Rows L2

/-- a def that may be called by its name -/
structure Cl (P : Program) (w : World) (K : PySem.W.Frag) (mg : Str → Option Value) (base : Heap) (CX : CXT) (k : Nat) (x : Str) (sp : Sp) : Prop where
  ex : ∃ (f : Addr) (fd : FuncData) (ps : List Str), FnOk P w K mg base CX k f fd ps sp ∧ mg x = some (.ref f) ∧ PySem.W.keepIn K (.ref f) = true ∧ Binds K fd ps []
section
variable {P : Program} {w : World} {K : PySem.W.Frag} {mg : Str → Option Value} {base : Heap}
theorem cl_of {CX : CXT} {x : Str} {st : Stmt} {f : Addr} {fd : FuncData} {N ps : List Str} {k : Nat} {sp : Sp} (F : FunD K x x (defArgs st) (defBody st) (defScope st) [] [] f fd) (hm : mg x = some (.ref f)) (S : FnScope N ps (defScope st))
    (len : ∀ vs H Q E, sp vs H Q E → vs.length = ps.length)
    (b : ∀ (kV doc pm : Value) (an : Option Addr) (cdv ct : Value) (us : List Value), us.length = ps.length → bindArgs (PySem.W.fnOf x x (defArgs st) (defBody st) (defScope st) .none kV doc pm an cdv ct) ⟨us, []⟩ = pure (ps.zip us))
    (hbody : ∀ (cdv : Value) (A : Around) (outer : List Env) (s : Shared) (H : Hp) (vs : List V) (Q : VK) (E : XK), Room k (A.deeper (envOfC x (defScope st) s.heap.objs.size f cdv)) → sp vs H Q E →
      ∃ t, PSs (cxOf CX P w K mg base N x (defScope st) f cdv A outer s H E) (defBody st) t ∧ t { nx := fun _ H' => Q .non H', rt := Q } (start N vs) H) : Cl P w K mg base CX (k + 1) x sp :=
  ⟨f, fd, ps, F.ok S len hbody, hm, F.kp, F.bindsN b⟩
/-- .. that raises nothing -/
theorem cl0 {x : Str} {st : Stmt} {f : Addr} {fd : FuncData} {N ps : List Str} {k : Nat} {sp : Sp} (F : FunD K x x (defArgs st) (defBody st) (defScope st) [] [] f fd) (hm : mg x = some (.ref f)) (S : FnScope N ps (defScope st))
    (len : ∀ vs H Q E, sp vs H Q E → vs.length = ps.length)
    (b : ∀ (kV doc pm : Value) (an : Option Addr) (cdv ct : Value) (us : List Value), us.length = ps.length → bindArgs (PySem.W.fnOf x x (defArgs st) (defBody st) (defScope st) .none kV doc pm an cdv ct) ⟨us, []⟩ = pure (ps.zip us))
    (hbody : ∀ (cdv : Value) (A : Around) (outer : List Env) (s : Shared) (H : Hp) (vs : List V) (Q : VK) (E : XK), Room k (A.deeper (envOfC x (defScope st) s.heap.objs.size f cdv)) → sp vs H Q E →
      ∃ t, PSs (cxOf CX0 P w K mg base N x (defScope st) f cdv A outer s H E).nox (defBody st) t ∧ t { nx := fun _ H' => Q .non H', rt := Q } (start N vs) H) : Cl P w K mg base CX0 (k + 1) x sp :=
  cl_of F hm S len b fun cdv A outer s H vs Q E hr h => by
    obtain ⟨t, h1, h2⟩ := hbody cdv A outer s H vs Q E hr h
    exact ⟨t, h1.nox, h2⟩
end
section
variable {X : Cx} {k j : Nat} {x : Str} {sp : Sp} {p pos : Pos} {e : Expr} {es : List Expr} {t : TA}
theorem pc (c : Cl X.prog X.w X.K X.mg X.base CX0 k x sp) (hr : Room j X.A) (hk : k ≤ j) (hg : Gl X x) (ha : PA X (e :: es) t)
    (hdb : (x == ("__debug__" : Str)) = false := by decide) (he : starEach (e :: es) X.env = (false, eval e X.env) :: starEach es X.env := by rfl) (hpl : (backTo pos (starEach es X.env)).any (·.1) = false := by rfl) :
    PE X (.Call (.Name x p) (e :: es) [] pos) (tCall sp [] E0 t) := by
  obtain ⟨f, fd, ps, F, hm, kp, b⟩ := c.ex
  exact pe_call F (hr.mono hk) hg hm kp b .nil pass0 ha hdb he hpl
theorem pc0 (c : Cl X.prog X.w X.K X.mg X.base CX0 k x sp) (hr : Room j X.A) (hk : k ≤ j) (hg : Gl X x)
    (hdb : (x == ("__debug__" : Str)) = false := by decide) :
    PE X (.Call (.Name x p) [] [] pos) (tCall sp [] E0 tNil) := by
  obtain ⟨f, fd, ps, F, hm, kp, b⟩ := c.ex
  exact pe_call0 F (hr.mono hk) hg hm kp b .nil pass0 hdb
theorem pe_ty {n : String} (hg : Gl X x) (hm : X.mg x = none) (hv : bootBuiltins x = some (.type n)) (hn : x ≠ "__name__" := by decide) (hd : (x == ("__debug__" : Str)) = false := by decide) : PE X (.Name x pos) (tC (.ty n)) :=
  pe_bltn hg hm hv (v := .ty n) rfl hn hd
end
/-! ### kinds -/
inductive VT (K : PySem.W.Frag) (H : Hp) : V → String → Prop where
  | non : VT K H .non "NoneType"
  | bl (b : Bool) : VT K H (.bl b) "bool"
  | int (i : Int) : VT K H (.int i) "int"
  | str (x : Str) : VT K H (.str x) "str"
  | tup {a : Addr} {xs : List V} (h : SqT K H a xs) : VT K H (.ref a) "tuple"
theorem VT.x {K : PySem.W.Frag} {H : Hp} {v : V} {t : String} (h : VT K H v t) : TyX K H v (.type t) := by
  cases h with
  | non => exact .base .non
  | bl b => exact .base (.bl b)
  | int i => exact .base (.int i)
  | str x => exact .base (.str x)
  | tup h =>
    rcases h with (h | ⟨o, h⟩) | h
    · exact .base (.tup h)
    · exact .fTuple h
    · obtain ⟨o, its, n, e, c, _⟩ := h
      exact .kTuple e c
def isT (t T : String) : Bool := t == T || (t == "bool" && T == "int")
def okT (T : String) : Bool := T == "int" || T == "str" || T == "bool" || T == "tuple"
theorem VT.kit {K : PySem.W.Frag} {H : Hp} {v : V} {t T : String} (h : VT K H v t) (k : okT T = true) : PySem.W.kitOne K (.type t) (.type T) = some (isT t T) := by
  have hT : T = "int" ∨ T = "str" ∨ T = "bool" ∨ T = "tuple" := by
    unfold okT at k
    simp only [Bool.or_eq_true, beq_iff_eq] at k
    rcases k with ((k | k) | k) | k
    · exact .inl k
    · exact .inr (.inl k)
    · exact .inr (.inr (.inl k))
    · exact .inr (.inr (.inr k))
  rcases hT with e | e | e | e <;> subst e <;> cases h <;> exact kit_ty (by decide +kernel)
def rIs (K : PySem.W.Frag) : List V → Hp → VK → Prop := fun xs H Q => ∃ (x : V) (t T : String), xs = [x, .ty T] ∧ VT K H x t ∧ okT T = true ∧ Q (.bl (isT t T)) H
theorem call_is {X : Cx} : CallR X (.builtin "isinstance") (rIs X.K) := by
  intro pins s σ H xs us Q I r h
  obtain ⟨x, t, T, rfl, ty, e, q⟩ := h
  exact call_isi pins s σ H _ us Q I r ⟨x, .ty T, .type t, .type T, _, rfl, .ty T, ty.x, ty.kit e, q⟩
/-! ### comprehensions whose turns only add to the heap -/
def giv (n : Nat) (f : Nat → Option V) : List V := (List.range n).filterMap f
theorem giv_len (n : Nat) (f : Nat → Option V) : (giv n f).length ≤ n := by
  unfold giv
  have := List.length_filterMap_le f (List.range n)
  rwa [List.length_range] at this
theorem giv_yes {n : Nat} {f : Nat → Option V} {y : V} (h : f n = some y) : giv (n + 1) f = giv n f ++ [y] := by
  unfold giv
  rw [List.range_succ, List.filterMap_append]
  simp [h]
theorem giv_no {n : Nat} {f : Nat → Option V} (h : f n = none) : giv (n + 1) f = giv n f := by
  unfold giv
  rw [List.range_succ, List.filterMap_append]
  simp [h]
theorem same_upd {H H' : Hp} {p : Addr} {o : HO} (e : Same H H') (h : H p = none) : Same H (upd H' p o) := fun a u ha => by
  rw [upd_ne (ne_of_none ha h)]
  exact e a u ha
theorem same_new {H : Hp} {p : Addr} {o : HO} (h : H p = none) : Same H (upd H p o) := same_upd (Same.refl H) h
theorem lcp {J : It} {n : Nat} {G : Hp → Prop} {Y : Nat → Hp → V → Hp → Prop} (wk : Walk J n G Y) {g : TG} {tt : TT} {te : TE} {vs : List Nat} {σ : L2.St} {H1 : Hp} {Q : VK} (f : Nat → Option V) (hn : n ≤ sizeLine)
    (hG : ∀ H, Same H1 H → G H)
    (hs : ∀ (i : Nat) (x : V) (H H' : Hp) (R : VK) (S : Hp → Prop), i < n → Same H1 H → Y i H x H' → (∀ y H4, f i = some y → Same H H4 → R y H4) → (f i = none → ∀ H3, Same H H3 → S H3) →
      g x (wipe σ vs) H' fun σ2 H2 => wipe σ2 vs = wipe σ vs ∧ tt σ2 H2 fun b H3 => if b = true then te σ2 H3 R else S H3)
    (k : ∀ D H', H1 D = none → Same H1 H' → H' D = some (.lst (giv n f)) → Q (.ref D) H') :
    ∀ D, H1 D = none → ∃ W : Nat → Nat → Hp → Prop, (∃ m, W 0 m (upd H1 D (.lst []))) ∧ ∀ i m H, W i m H →
      (J.stop i H ∧ Q (.ref D) H) ∨ (J.go i H ∧ ∃ Nx : Hp → Prop, (∀ H', Nx H' → ∃ m', m' < m ∧ W (i + 1) m' H') ∧ ∀ x H', J.yld i H x H' → g x (wipe σ vs) H' fun σ2 H2 => wipe σ2 vs = wipe σ vs ∧ tt σ2 H2 fun b H3 =>
        if b = true then te σ2 H3 fun y H4 => ∃ acc, H4 D = some (.lst acc) ∧ acc.length < sizeLine ∧ Nx (upd H4 D (.lst (acc ++ [y]))) else Nx H3) := by
  intro D hD
  refine lc_it wk (fun i H => Same H1 H ∧ H D = some (.lst (giv i f))) ⟨same_new hD, upd_same⟩ (fun i H _ p => hG H p.1) (fun i x H H' hi p y => ?_) (fun H p => k D H hD p.1 p.2)
  refine hs i x H H' _ _ hi p.1 y (fun z H4 e s4 => ⟨giv i f, s4 D _ p.2, ?_, ?_, ?_⟩) (fun e H3 s3 => ⟨p.1.trans s3, ?_⟩)
  · have := giv_len i f
    omega
  · exact same_upd (p.1.trans s4) hD
  · rw [giv_yes e]
    exact upd_same
  · rw [giv_no e]
    exact s3 D _ p.2
theorem giv_bl (n : Nat) (p : Nat → Bool) : giv n (fun i => some (.bl (p i))) = ((List.range n).map p).map V.bl := by
  unfold giv
  rw [List.map_map]
  induction List.range n with
  | nil => rfl
  | cons a l ih => rw [List.filterMap_cons]; simp [ih]
/-- items of a list, turn by turn -/
theorem giv_map {α : Type} (xs : List α) (f : α → Option V) (h : Nat → Option V) (e : ∀ i x, xs[i]? = some x → h i = f x) : giv xs.length h = xs.filterMap f := by
  unfold giv
  have key : ∀ (l : List α) (k : Nat), (∀ i x, l[i]? = some x → h (k + i) = f x) → (List.range' k l.length).filterMap h = l.filterMap f := by
    intro l
    induction l with
    | nil => intro k _; rfl
    | cons a l ih =>
      intro k hk
      have h0 : h k = f a := hk 0 a rfl
      have ih2 := ih (k + 1) fun i x hx => by
        have := hk (i + 1) x (by simpa using hx)
        rw [← this]
        congr 1
        omega
      rw [List.length_cons, List.range'_succ, List.filterMap_cons, List.filterMap_cons, ih2, h0]
  rw [List.range_eq_range']
  exact key xs 0 fun i x hx => by rw [Nat.zero_add]; exact e i x hx
theorem giv_str (z : Str) (q : Nat → V) : giv z.cps.size (fun i => (z.cps[i]?).map q) = z.cps.toList.map q := by
  have e : z.cps.size = z.cps.toList.length := by simp
  rw [e, giv_map z.cps.toList (fun c => some (q c)) _ fun i x hx => ?_]
  · induction z.cps.toList with
    | nil => rfl
    | cons a l ih => simp
  · rw [Array.getElem?_toList] at hx
    rw [hx]
    rfl
theorem giv_lst (xs : List V) (q : V → Option V) : giv xs.length (fun i => (xs[i]?).bind q) = xs.filterMap q :=
  giv_map xs q _ fun i x hx => by rw [hx]; rfl
theorem sz {n : Nat} (h : n ≤ 1000000) : n ≤ sizeLine := Nat.le_trans h (by decide)
theorem szl {n : Nat} (h : n ≤ 1000000) : n < sizeLine := Nat.lt_of_le_of_lt h (by decide)
theorem hu65 {k : Nat} {A : Around} (r : Room k A) : A.units + 65 < cLine := by have := r.un; omega
/-- a test answered -/
theorem ifb {b : Bool} {A B : Prop} (h1 : b = true → A) (h2 : b = false → B) : if b = true then A else B := by
  cases b with
  | true => rw [if_pos rfl]; exact h1 rfl
  | false => rw [if_neg Bool.false_ne_true]; exact h2 rfl
def RetV (v : V) (H : Hp) (Q : VK) : Prop := ∀ H', Same H H' → Q v H'
theorem RetV.go {v : V} {H : Hp} {Q : VK} (k : RetV v H Q) : Q v H := k H (Same.refl H)
end Pk
set_option Elab.async false
set_option linter.all false
set_option maxRecDepth 100000
set_option maxHeartbeats 4000000
/-! What pure expressions evaluate to: more words like Evl's. -/
namespace Pk
open PySem PySem.Spec PyProof.Rows L2 Evl
section
variable {K : PySem.W.Frag} {σ : L2.St} {H H' : Hp} {ta tb tc te tx : TE} {t u : TT} {x y z v : V} {r : R2}
theorem VT.mono {s : String} (e : Ex H H') (h : VT K H v s) : VT K H' v s := by
  cases h with
  | non => exact .non
  | bl b => exact .bl b
  | int i => exact .int i
  | str x => exact .str x
  | tup h => exact .tup (ex_t e h)
theorem ev_chain {g g' : Int → Int → Bool} {i j k : Int} (ha : Ev ta σ H (.int i)) (hb : Ev tb σ H (.int j)) (hc : Ev tc σ H (.int k)) :
    Ev (tChain (rI0 fun i j => .bl (g i j)) (rI0 fun i j => .bl (g' i j)) ta tb tc) σ H (.bl (g i j && g' j k)) := fun H1 e Q q =>
  ha H1 e _ fun H2 e2 => hb H2 (e.trans e2) _ fun H3 e3 => ⟨i, j, rfl, rfl, g i j, rfl, by
    cases h : g i j with
    | true =>
      rw [if_pos rfl]
      refine hc H3 ((e.trans e2).trans e3) _ fun H4 e4 => ⟨j, k, rfl, rfl, ?_⟩
      have := q H4 ((e2.trans e3).trans e4)
      rw [h] at this
      exact this
    | false =>
      rw [if_neg Bool.false_ne_true]
      have := q H3 (e2.trans e3)
      rw [h] at this
      exact this⟩
theorem ev_isi {s T : String} (ha : Ev ta σ H v) (ty : VT K H v s) (k : okT T = true) : Ev (tCB (rIs K) (tCons ta (tCons (tC (.ty T)) tNil))) σ H (.bl (isT s T)) := fun H1 e Q q =>
  ha H1 e _ fun H2 e2 => ⟨v, s, T, rfl, ty.mono (e.trans e2), k, q H2 e2⟩
theorem rc_lenS {w : Str} (h : w.length ≤ 1000000) : RC (fun xs H Q => ∃ z, xs = [.str z] ∧ z.length ≤ sizeLine ∧ Q (.int z.length) H) [.str w] H (.int w.length) := fun H1 _ Q q => ⟨w, rfl, sz h, q H1 (Ex.refl _)⟩
theorem rc_lenT {p : Addr} {ys : List V} (h : SqT K H p ys) : RC (fun xs H Q => ∃ p ys, xs = [.ref p] ∧ (SqL K H p ys ∨ SqT K H p ys) ∧ Q (.int ys.length) H) [.ref p] H (.int (ys.length : Int)) := fun H1 e Q q => ⟨p, ys, rfl, .inr (ex_t e h), q H1 (Ex.refl _)⟩
theorem rc_lenL {p : Addr} {ys : List V} (h : SqL K H p ys) : RC (fun xs H Q => ∃ p ys, xs = [.ref p] ∧ (SqL K H p ys ∨ SqT K H p ys) ∧ Q (.int ys.length) H) [.ref p] H (.int (ys.length : Int)) := fun H1 e Q q => ⟨p, ys, rfl, .inl (ex_l e h), q H1 (Ex.refl _)⟩
theorem ea1 (h : Ev ta σ H x) : EvA (tCons ta tNil) σ H [x] := ea_cons h ea_nil
theorem ea2 (h : Ev ta σ H x) (h2 : Ev tb σ H y) : EvA (tCons ta (tCons tb tNil)) σ H [x, y] := ea_cons h (ea1 h2)
theorem rv_sign {c : Nat} {w : Str} : RV (fun x y H Q => ∃ (c : Nat) (z : Str), x = .str ⟨#[c]⟩ ∧ y = .str z ∧ Q (.bl (decide (c ∈ z.cps.toList))) H) (.str ⟨#[c]⟩) (.str w) H (.bl (decide (c ∈ w.cps.toList))) :=
  fun H1 _ Q q => ⟨c, w, rfl, rfl, q H1 (Ex.refl _)⟩
theorem rv_is : RV (fun x y H Q => y = .non ∧ Q (.bl (decide (x = .non))) H) x .non H (.bl (decide (x = .non))) := fun H1 _ Q q => ⟨rfl, q H1 (Ex.refl _)⟩
theorem rv_isn : RV (fun x y H Q => y = .non ∧ Q (.bl (!decide (x = .non))) H) x .non H (.bl (!decide (x = .non))) := fun H1 _ Q q => ⟨rfl, q H1 (Ex.refl _)⟩
theorem rv_ixS {w : Str} {i : Int} {c : Nat} (h : w.length ≤ 1000000) (ha : atI w.cps.toList i = some c) : RV rIxS (.str w) (.int i) H (.str ⟨#[c]⟩) := fun H1 _ _ q => ⟨w, i, c, rfl, rfl, sz h, ha, q H1 (Ex.refl H1)⟩
/-- a call that gives a fixed value and only adds to the heap -/
theorem ev_callV {sp : Sp} {vs : List V} {E : XK} {t : TA} (h : EvA t σ H vs) (hs : ∀ H1, Ex H H1 → ∀ Q : VK, RetV v H1 Q → sp vs H1 Q E) : Ev (tCall sp [] E t) σ H v := fun H1 e Q q =>
  h H1 e _ fun H2 e2 => by
    rw [List.append_nil]
    exact hs H2 (e.trans e2) Q fun H3 e3 => q H3 (Ex.trans e2 e3)
theorem et_yes : EvT tYes σ H true := fun H1 _ _ q => q H1 (Ex.refl _)
/-- a comprehension over a walk, its target a name -/
theorem el_lc {wi : TI} {J : It} {n : Nat} {G : Hp → Prop} {Y : Nat → Hp → V → Hp → Prop} {j : Nat} {vs : List Nat} (wk : Walk J n G Y) (hn : n ≤ sizeLine) (at_ : Nat → V → Prop) (b : Nat → Bool) (f : Nat → V)
    (hwi : ∀ H1, Ex H H1 → ∀ R : It → Hp → Prop, (∀ H2, Ex H1 H2 → R J H2) → wi σ H1 R) (hG : ∀ H1, Ex H H1 → G H1) (hY : ∀ i H0 x H', i < n → Ex H H0 → Y i H0 x H' → H' = H0 ∧ at_ i x) (hw : ∀ x, wipe ((wipe σ vs).set j (some x)) vs = wipe σ vs)
    (ht : ∀ (i : Nat) (x : V) H0, i < n → Ex H H0 → at_ i x → EvT t ((wipe σ vs).set j (some x)) H0 (b i)) (he : ∀ (i : Nat) (x : V) H0, i < n → Ex H H0 → at_ i x → b i = true → Ev te ((wipe σ vs).set j (some x)) H0 (f i)) :
    EvL (tLc wi (gName j) t te vs) σ H (giv n fun i => if b i = true then some (f i) else none) := fun H1 e Q q => hwi H1 e _ fun H2 e2 =>
  lcp wk (fun i => if b i = true then some (f i) else none) hn (fun H0 e0 => hG H0 ((e.trans e2).trans e0)) (fun i x H0 H' R S hi s0 y hR hS => by
    obtain ⟨rfl, hx⟩ := hY i H0 x H' hi ((e.trans e2).trans s0) y
    refine ⟨hw x, ht i x H' hi ((e.trans e2).trans s0) hx H' (Ex.refl _) _ fun H3 e3 => ?_⟩
    cases hb : b i with
    | true =>
      rw [if_pos rfl]
      refine he i x H' hi ((e.trans e2).trans s0) hx hb H3 e3 _ fun H4 e4 => hR _ H4 ?_ (Ex.trans e3 e4)
      rw [if_pos hb]
    | false =>
      rw [if_neg Bool.false_ne_true]
      exact hS (by rw [if_neg (by rw [hb]; exact Bool.false_ne_true)]) H3 e3) fun D H3 hD s3 h3 => q D H3 (fresh_back e2 hD) (Ex.trans e2 s3) h3
theorem ev_all {bs : List Bool} (h : EvL te σ H (bs.map V.bl)) : Ev (tCB (rAll K) (tCons te tNil)) σ H (.bl (bs.all id)) := fun H1 e Q q =>
  h H1 e _ fun p H2 _ e2 hp => ⟨p, bs, rfl, SqL.of hp, q H2 e2⟩
theorem ev_any {bs : List Bool} (h : EvL te σ H (bs.map V.bl)) : Ev (tCB (rAny K) (tCons te tNil)) σ H (.bl (bs.any id)) := fun H1 e Q q =>
  h H1 e _ fun p H2 _ e2 hp => ⟨p, bs, rfl, SqL.of hp, q H2 e2⟩
theorem el_is {xs ys : List V} (h : EvL te σ H xs) (e : xs = ys) : EvL te σ H ys := e ▸ h
/-- over a text, sign by sign -/
theorem el_str {w : Str} {j : Nat} {vs : List Nat} (q : Nat → V) (h : Ev tx σ H (.str w)) (hn : w.length ≤ 1000000) (hw : ∀ x, wipe ((wipe σ vs).set j (some x)) vs = wipe σ vs)
    (he : ∀ (c : Nat) H0, c ∈ w.cps.toList → Ex H H0 → Ev te ((wipe σ vs).set j (some (.str ⟨#[c]⟩))) H0 (q c)) : EvL (tLc (iStr tx) (gName j) tYes te vs) σ H (w.cps.toList.map q) := by
  refine el_is (el_lc (walk_str (z := w)) (sz hn) (fun i x => ∃ c, w.cps[i]? = some c ∧ x = .str ⟨#[c]⟩) (fun _ => true) (fun i => ((w.cps[i]?).map q).getD .non) (fun H1 e R hr => h H1 e _ fun H2 e2 => ⟨w, rfl, hr H2 e2⟩) (fun _ _ => trivial)
    (fun i H0 x H' _ _ y => y) hw (fun _ _ _ _ _ _ => et_yes) (fun i x H0 hi e hx _ => ?_)) ?_
  · obtain ⟨c, hc, rfl⟩ := hx
    rw [hc]
    exact he c H0 (Array.mem_toList_iff.mpr (Array.mem_of_getElem? hc)) e
  · have e : w.cps.size = w.cps.toList.length := by simp
    rw [e, giv_map w.cps.toList (fun c => some (q c)) _ fun i x hx => ?_]
    · induction w.cps.toList with
      | nil => rfl
      | cons a l ih => simp
    · rw [Array.getElem?_toList] at hx
      rw [if_pos rfl, hx]
      rfl
/-- over a tuple | a list -/
theorem giv_items (xs : List V) (b : V → Bool) (q : V → V) : giv xs.length (fun i => if b (xs.getD i .non) = true then some (q (xs.getD i .non)) else none) = (xs.filter b).map q := by
  rw [giv_map xs (fun x => if b x = true then some (q x) else none) _ fun i x hx => by simp [hx]]
  induction xs with
  | nil => rfl
  | cons a l ih =>
    rw [List.filterMap_cons, List.filter_cons]
    by_cases h : b a = true
    · rw [if_pos h, if_pos h, List.map_cons, ih]
    · rw [if_neg h, if_neg h, ih]
theorem el_tup {p : Addr} {xs : List V} {j : Nat} {vs : List Nat} (b : V → Bool) (q : V → V) (h : Ev tx σ H (.ref p)) (hp : SqT K H p xs) (hn : xs.length ≤ sizeLine) (hw : ∀ x, wipe ((wipe σ vs).set j (some x)) vs = wipe σ vs)
    (ht : ∀ (x : V) H0, x ∈ xs → Ex H H0 → EvT t ((wipe σ vs).set j (some x)) H0 (b x)) (he : ∀ (x : V) H0, x ∈ xs → Ex H H0 → b x = true → Ev te ((wipe σ vs).set j (some x)) H0 (q x)) :
    EvL (tLc (iTup K tx) (gName j) t te vs) σ H ((xs.filter b).map q) := by
  refine el_is (el_lc (walk_tup (K := K) (a := p) (xs := xs)) hn (fun i x => xs[i]? = some x) (fun i => b (xs.getD i .non)) (fun i => q (xs.getD i .non)) (fun H1 e R hr => h H1 e _ fun H2 e2 => ⟨p, rfl, ⟨xs, ex_t (e.trans e2) hp⟩, hr H2 e2⟩) (fun H1 e => ex_t e hp)
    (fun i H0 x H' _ _ y => y) hw (fun i x H0 _ e hx => ?_) (fun i x H0 _ e hx hb => ?_)) (giv_items xs b q)
  · have e1 : xs.getD i .non = x := by simp [hx]
    rw [e1]
    exact ht x H0 (List.mem_of_getElem? hx) e
  · have e1 : xs.getD i .non = x := by simp [hx]
    rw [e1] at hb ⊢
    exact he x H0 (List.mem_of_getElem? hx) e hb
theorem el_lst {p : Addr} {xs : List V} {j : Nat} {vs : List Nat} (b : V → Bool) (q : V → V) (h : Ev tx σ H (.ref p)) (hp : SqL K H p xs) (hn : xs.length ≤ sizeLine) (hw : ∀ x, wipe ((wipe σ vs).set j (some x)) vs = wipe σ vs)
    (ht : ∀ (x : V) H0, x ∈ xs → Ex H H0 → EvT t ((wipe σ vs).set j (some x)) H0 (b x)) (he : ∀ (x : V) H0, x ∈ xs → Ex H H0 → b x = true → Ev te ((wipe σ vs).set j (some x)) H0 (q x)) :
    EvL (tLc (iList K tx) (gName j) t te vs) σ H ((xs.filter b).map q) := by
  refine el_is (el_lc (walk_list (K := K) (a := p) (xs := xs)) hn (fun i x => xs[i]? = some x) (fun i => b (xs.getD i .non)) (fun i => q (xs.getD i .non)) (fun H1 e R hr => h H1 e _ fun H2 e2 => ⟨p, rfl, ⟨xs, ex_l (e.trans e2) hp⟩, hr H2 e2⟩) (fun H1 e => ex_l e hp)
    (fun i H0 x H' _ _ y => y) hw (fun i x H0 _ e hx => ?_) (fun i x H0 _ e hx hb => ?_)) (giv_items xs b q)
  · have e1 : xs.getD i .non = x := by simp [hx]
    rw [e1]
    exact ht x H0 (List.mem_of_getElem? hx) e
  · have e1 : xs.getD i .non = x := by simp [hx]
    rw [e1] at hb ⊢
    exact he x H0 (List.mem_of_getElem? hx) e hb
theorem ev_slS {tl' th : TO} {w : Str} {lo hi : Option Int} (h : Ev te σ H (.str w)) (hw : w.length ≤ 1000000) (h1 : EvO tl' σ H lo) (h2 : EvO th σ H hi) : Ev (tSl rSlS te tl' th) σ H (.str (cutS w lo hi)) := fun H1 e _ q =>
  h H1 e _ fun H2 e2 => h1 H2 (e.trans e2) _ fun H3 e3 => h2 H3 ((e.trans e2).trans e3) _ fun H4 e4 => ⟨w, rfl, sz hw, q H4 ((e2.trans e3).trans e4)⟩
theorem inV_strs (z : Str) (l : List Str) : inV (.str z) (l.map V.str) = decide (z ∈ l) := by
  unfold inV
  induction l with
  | nil => rfl
  | cons a l ih =>
    rw [List.map_cons, List.any_cons, ih]
    show ((a == z) || decide (z ∈ l)) = _
    by_cases h : a = z
    · subst h; simp
    · have h2 : ¬ z = a := fun e => h e.symm
      simp [h, h2]
theorem flat_strs (l : List Str) : (l.map V.str).all flatV = true := by
  induction l with
  | nil => rfl
  | cons a l ih => rw [List.map_cons, List.all_cons, ih]; rfl
theorem ev_inT {p : Addr} {l : List Str} {w : Str} (ha : Ev ta σ H (.str w)) (hb : Ev tb σ H (.ref p)) (h : ∀ H, SqT K H p (l.map V.str)) : Ev (tOp (rIn K false) ta tb) σ H (.bl (decide (w ∈ l))) :=
  ev_is (ev_op ha hb (rv_isT (h H) rfl (flat_strs l))) (by rw [inV_strs])
theorem et_or1 (h : EvT t σ H true) : EvT (tOr t u) σ H true := fun H1 e Q q => h H1 e _ fun H2 e2 => by
  show (if true = true then Q true H2 else _)
  rw [if_pos rfl]
  exact q H2 e2
theorem et_and0 (h : EvT t σ H false) : EvT (tAnd t u) σ H false := fun H1 e Q q => h H1 e _ fun H2 e2 => by
  show (if false = true then _ else Q false H2)
  rw [if_neg Bool.false_ne_true]
  exact q H2 e2
/-- not isinstance(x, T) or .. -/
theorem et_noT {i : Nat} {s T : String} (h0 : σ[i]? = some (some v)) (ty : VT K H v s) (k : okT T = true) (hs : isT s T = false) : EvT (tOr (tNot (tB (tCB (rIs K) (tCons (tVar i) (tCons (tC (.ty T)) tNil))))) u) σ H true :=
  et_or1 (et_is (et_not (et_B (ev_isi (ev_var h0) ty k))) (by rw [hs]; rfl))
end
end Pk
set_option Elab.async false
set_option linter.all false
set_option maxRecDepth 100000
set_option maxHeartbeats 4000000
/-! What the walks lean on: the defs of the text by places, the facts of the top. -/
namespace Pk
open PySem PySem.Spec PyProof.Rows L2
def top (i : Nat) : Stmt := PySem.Challenge.pw_papertongue_k09_whole_plain_form_is_one.main.body.getD i (.Pass ⟨0, 0, 0, 0⟩)
def dF (x : Str) (i : Nat) : He.DefD := ⟨(x, none), x, x, defArgs (top i), defBody (top i), defScope (top i), [], []⟩
def dM (c m q : Str) (i j : Nat) : He.DefD := ⟨(c, some m), m, q, defArgs (inClass (top i) j), defBody (inClass (top i) j), defScope (inClass (top i) j), [], []⟩

def dflAt0 (x : Str) : PySem.W.Frag → Addr := He.dflAt (x, some "__init__") 0
def defs : List He.DefD := [dF "is_whole" 15,
  dF "is_within" 16,
  dF "is_name" 17,
  dF "is_word" 18,
  dF "is_token" 19,
  dF "first_wrong" 20,
  { dF "is_tokens" 21 with kwd := [("plain", .bl false)] },
  dF "is_plain" 22,
  dF "is_bare" 23,
  dF "words_in" 24,
  dF "is_style" 35,
  dF "is_align" 36,
  dF "is_counted" 37,
  dF "is_way" 38,
  dF "is_sort" 39,
  dF "is_kind" 40,
  dF "is_part" 45,
  dF "is_row" 46,
  dF "has_tokens" 47,
  dF "row_words" 48,
  dF "row_text" 49,
  dF "number_in" 50,
  dF "part_in" 51,
  dF "row_in" 52,
  dF "first_amiss" 56,
  dF "lines_in" 60,
  dF "rows_in" 61,
  dF "read_text" 62,
  dF "_law_cell" 64,
  dF "_law_purse" 65,
  dF "_law_pick" 66,
  dF "_law_one_word" 67,
  dF "_law_names" 68,
  dF "_law_tokens" 69,
  dF "_law_with_note" 70,
  dF "_law_table" 71,
  dF "_law_line_of" 72,
  dF "_law_is_name" 73,
  dF "_law_is_word" 74,
  dF "_law_is_token" 75,
  dF "_law_amiss" 76,
  dF "_law_whole" 77,
  dF "_law_are_tokens" 78,
  dF "_law_is_part" 79,
  dF "_law_forms" 80,
  dF "_law_is_row" 81,
  dF "_law_cell_taken" 82,
  dF "_law_stood" 83,
  dF "_law_any_row" 84,
  dF "_law_standing" 85,
  dF "_law_words_of" 86,
  dF "_law_loosely" 87,
  dF "_law_otherwise" 88,
  dF "_law_read" 89,
  dF "_law_one_form" 90,
  dF "law" 91,
  dM "NoText" "__init__" "NoText.__init__" 4 0,
  dM "Shape" "__init__" "Shape.__init__" 53 0,
  dM "Shape" "takes" "Shape.takes" 53 1,
  dM "Shape" "takes_rule" "Shape.takes_rule" 53 2,
  dM "Shape" "takes_line" "Shape.takes_line" 53 3,
  dM "Shape" "placed" "Shape.placed" 53 4,
  dM "Shape" "is_open" "Shape.is_open" 53 5,
  { dM "Text" "__init__" "Text.__init__" 57 0 with dfl := [.adr (dflAt0 "Text")] },
  dM "Text" "__eq__" "Text.__eq__" 57 2,
  dM "Text" "__str__" "Text.__str__" 57 4]
/-- a written dict with text keys, as a table -/
def KD {α : Type} (K : PySem.W.Frag) (d : Addr) (tab : List (Str × α)) (R : α → Value → Prop) : Prop := ∀ z : Str, ∃ r, PySem.W.nsIn K d z = some r ∧ match tab.lookup z with
  | none => r = none
  | some y => ∃ u, r = some u ∧ R y u
def chkNames : List (Str × Str) := [("name", "is_name"), ("style", "is_style"), ("align", "is_align"), ("counted", "is_counted"), ("way", "is_way"), ("sort", "is_sort"), ("kind", "is_kind"), ("tokens", "is_tokens"), ("plain", "is_plain"), ("bare", "is_bare")]
/-- TongueError.__init__ is ValueError's own -/
structure TeInit (K : PySem.W.Frag) (C : Addr) : Prop where
  sp : PySem.W.specialIn K (.ref C) "__getattribute__" = some (some (.builtin "type.__getattribute__"))
  rd : PySem.W.readsIn K C (.type "type") = true
  at_ : PySem.W.findCls K (.ref C) (.type "type") "__init__" = some (.val (.builtin "ValueError.__init__"))
/-- the facts -/
structure Txt (w : World) (K : PySem.W.Frag) (mg : Str → Option Value) : Prop where
  f_isinstance : mg "isinstance" = none
  f_len : mg "len" = none
  f_all : mg "all" = none
  f_any : mg "any" = none
  f_max : mg "max" = none
  f_min : mg "min" = none
  f_int : mg "int" = none
  f_str : mg "str" = none
  f_bool : mg "bool" = none
  f_tuple : mg "tuple" = none
  f_list : mg "list" = none
  f_range : mg "range" = none
  f_enumerate : mg "enumerate" = none
  f_zip : mg "zip" = none
  f_ValueError : mg "ValueError" = none
  g_MOST_NAME : ∃ u, mg "MOST_NAME" = some u ∧ RelV (.int 8) u
  g_MOST_WORD : ∃ u, mg "MOST_WORD" = some u ∧ RelV (.int 12) u
  g_MOST_TOKENS : ∃ u, mg "MOST_TOKENS" = some u ∧ RelV (.int 40) u
  g_MOST_LINES : ∃ u, mg "MOST_LINES" = some u ∧ RelV (.int 8) u
  g_MOST_WHENS : ∃ u, mg "MOST_WHENS" = some u ∧ RelV (.int 3) u
  g_MOST_FIGURES : ∃ u, mg "MOST_FIGURES" = some u ∧ RelV (.int 9) u
  g_MOST_ROWS : ∃ u, mg "MOST_ROWS" = some u ∧ RelV (.int 80) u
  g_SMALL : ∃ u, mg "SMALL" = some u ∧ RelV (.str sSmall) u
  g_FIGURES : ∃ u, mg "FIGURES" = some u ∧ RelV (.str sFig) u
  g_SIGNS : ∃ u, mg "SIGNS" = some u ∧ RelV (.str sSigns) u
  g_NO_STYLE : ∃ u, mg "NO_STYLE" = some u ∧ RelV (.str "-") u
  g_PASSED : ∃ u, mg "PASSED" = some u ∧ RelV (.str dots) u
  g_BRACKETS : ∃ u, mg "BRACKETS" = some u ∧ RelV (.ref (He.ga K "BRACKETS")) u
  t_BRACKETS : ∀ H, SqT K H (He.ga K "BRACKETS") (brs.map V.str)
  g_ALIGNS : ∃ u, mg "ALIGNS" = some u ∧ RelV (.ref (He.ga K "ALIGNS")) u
  t_ALIGNS : ∀ H, SqT K H (He.ga K "ALIGNS") (aligns.map V.str)
  g_COUNTED : ∃ u, mg "COUNTED" = some u ∧ RelV (.ref (He.ga K "COUNTED")) u
  t_COUNTED : ∀ H, SqT K H (He.ga K "COUNTED") (counteds.map V.str)
  g_WAYS : ∃ u, mg "WAYS" = some u ∧ RelV (.ref (He.ga K "WAYS")) u
  t_WAYS : ∀ H, SqT K H (He.ga K "WAYS") (ways.map V.str)
  g_SORTS : ∃ u, mg "SORTS" = some u ∧ RelV (.ref (He.ga K "SORTS")) u
  t_SORTS : ∀ H, SqT K H (He.ga K "SORTS") (sorts.map V.str)
  g_KINDS : ∃ u, mg "KINDS" = some u ∧ RelV (.ref (He.ga K "KINDS")) u
  t_KINDS : ∀ H, SqT K H (He.ga K "KINDS") (kinds.map V.str)
  g_TOKENED : ∃ u, mg "TOKENED" = some u ∧ RelV (.ref (He.ga K "TOKENED")) u
  t_TOKENED : ∀ H, SqT K H (He.ga K "TOKENED") (tokened.map V.str)
  g_PAIRS : ∃ u, mg "PAIRS" = some u ∧ RelV (.ref (He.ga K "PAIRS")) u
  d_PAIRS : ∃ es n, KDict K w (He.ga K "PAIRS") es n
  g_CHECKS : ∃ u, mg "CHECKS" = some u ∧ RelV (.ref (He.ga K "CHECKS")) u
  d_CHECKS : ∃ es n, KDict K w (He.ga K "CHECKS") es n
  g_NUMBERS : ∃ u, mg "NUMBERS" = some u ∧ RelV (.ref (He.ga K "NUMBERS")) u
  d_NUMBERS : ∃ es n, KDict K w (He.ga K "NUMBERS") es n
  g_FORMS : ∃ u, mg "FORMS" = some u ∧ RelV (.ref (He.ga K "FORMS")) u
  d_FORMS : ∃ es n, KDict K w (He.ga K "FORMS") es n
  p_PAIRS : KD K (He.ga K "PAIRS") pairTab fun y u => RelV (.str y) u
  p_NUMBERS : KD K (He.ga K "NUMBERS") numTab fun y u => ∃ a, u = .ref a ∧ ∀ H, SqT K H a [.int y.1, .int y.2]
  p_FORMS : KD K (He.ga K "FORMS") formTab fun y u => ∃ a, u = .ref a ∧ ∀ H, SqT K H a (y.map V.str)
  p_CHECKS : KD K (He.ga K "CHECKS") chkNames fun y u => u = .ref (He.ga K y)
  gl_Shape : mg "Shape" = some (.ref (He.ga K "Shape"))
  k_Shape : Cls K (He.ga K "Shape")
  mk_Shape : Mk K (He.ga K "Shape") (He.ma K (He.ga K "Shape") "__init__")
  no_Shape : ∀ f ∈ (["ruled", "begun", "whens", "columns", "lines", "cover"] : List Str), NoAttr K (He.ga K "Shape") f
  me_Shape : ∀ m ∈ (["takes", "takes_rule", "takes_line", "placed", "is_open"] : List Str), Meth K (He.ga K "Shape") m (He.ma K (He.ga K "Shape") m)
  gl_Text : mg "Text" = some (.ref (He.ga K "Text"))
  k_Text : Cls K (He.ga K "Text")
  mk_Text : Mk K (He.ga K "Text") (He.ma K (He.ga K "Text") "__init__")
  no_Text : ∀ f ∈ (["rows"] : List Str), NoAttr K (He.ga K "Text") f
  me_Text : ∀ m ∈ (["__eq__", "__str__"] : List Str), Meth K (He.ga K "Text") m (He.ma K (He.ga K "Text") m)
  gl_NoText : mg "NoText" = some (.ref (He.ga K "NoText"))
  gl_TongueError : mg "TongueError" = some (.ref (He.ga K "TongueError"))
  x_NoText : OexC K (He.ga K "NoText")
  i_NoText : PySem.W.findIn K (.ref (He.ga K "NoText")) "__init__" = some (some (.ref (He.ma K (He.ga K "NoText") "__init__")))
  ty_NoText : PySem.W.typeIn K (.ref (He.ma K (He.ga K "NoText") "__init__")) = some (.type "function")
  no_NoText : PySem.W.findIn K (.ref (He.ga K "NoText")) "row" = some none
  exm_NoText : PySem.W.exmOne K (.ref (He.ga K "NoText")) (.ref (He.ga K "NoText")) = some true
  te_init : TeInit K (He.ga K "TongueError")
  ne_Text : PySem.W.findIn K (.ref (He.ga K "Text")) "__ne__" = some (some (.builtin "object.__ne__"))
  sub_Text : PySem.W.subIn K (.ref (He.ga K "Text")) (.type "object") = some true
  ty_Text : ∀ (H : Hp) (a dx : Addr) (fs : List (Str × V)), H a = some (.ins (He.ga K "Text") dx fs) → TyOf K H (.ref a) (.ref (He.ga K "Text"))
  kit_Text : PySem.W.kitOne K (.ref (He.ga K "Text")) (.ref (He.ga K "Text")) = some true
  fn : ∀ (i : Nat) (d : He.DefD), defs[i]? = some d → ∃ fd, FunD K d.name d.qual d.params d.body d.scope (d.dvs K) (d.kws K) (He.fAd K d.at_) fd
  gl : ∀ (i : Nat) (d : He.DefD), defs[i]? = some d → d.at_.2 = none → mg d.at_.1 = some (.ref (He.fAd K d.at_))
theorem Txt.df {w : World} {K : PySem.W.Frag} {mg : Str → Option Value} (T : Txt w K mg) (i : Nat) (x : Str) (n : Nat) (h : defs[i]? = some (dF x n)) :
    ∃ fd, FunD K x x (defArgs (top n)) (defBody (top n)) (defScope (top n)) [] [] (He.fAd K (x, none)) fd ∧ mg x = some (.ref (He.fAd K (x, none))) := by
  obtain ⟨fd, F⟩ := T.fn i _ h
  exact ⟨fd, F, T.gl i _ h rfl⟩
end Pk
set_option Elab.async false
set_option linter.all false
set_option maxRecDepth 100000
set_option maxHeartbeats 4000000
/-! Rules the hand layer lacks: enumerate of a tuple, zip of a tuple and a list. -/
namespace Pk
open PySem PySem.Spec PyProof.Rows L2
open Sem (wp)
set_option maxHeartbeats 1000000 in
theorem meets_enumerate_newB1 {v : Value} {o : Obj} {H : Heap → Prop} (B : Begins v o H) :
    Meets (Builtin.«enumerate.__new__» ⟨[.type "enumerate", v], []⟩) (fun _ R s => H s.heap ∧
      R (.ok (.ret (.ref (s.heap.push o).objs.size))) { s with heap := (s.heap.push o).push { cls := .type "enumerate", data := .fields #[.none, .bool false, .ref s.heap.objs.size, rawInt 0, .none, .none] } }) :=
  .of_wp fun prog w A R s h => by
    obtain ⟨hp, g, d, tk, os⟩ := s; obtain ⟨h1, h⟩ := h
    have hsub := sub_enumerate
    have q1 : ∀ {A' : Around} {E : Value → Shared → Prop} {Q : Value → Shared → Prop}, Q (.ref hp.objs.size) ⟨hp.push o, g, d, tk, os⟩ → wpAny (model prog w) A' (pyIter v) Q E ⟨hp, g, d, tk, os⟩ :=
      fun q => B.iter prog w _ _ ⟨hp, g, d, tk, os⟩ _ h1 q
    wp_walk using q1
    refine wpAny_stack_any fun st => wpAny_pure ?_
    split
    · rename_i c _ _ _ _ _
      cases (c == Value.type "enumerate")
      · wp_walk using q1
        exact ⟨_, rfl, h⟩
      · wp_walk using q1
        exact ⟨_, rfl, h⟩
    · wp_walk using q1
      exact ⟨_, rfl, h⟩
theorem enum_begins1 {prog : Program} {w : World} {A : Around} {E : Value → Shared → Prop} {s : Shared} {v : Value} {o : Obj} {H : Heap → Prop} {Q : Value → Shared → Prop} (B : Begins v o H) (h1 : H s.heap)
    (h : ∀ h', IsEnum h' (s.heap.objs.size + 1) s.heap.objs.size 0 .none → h'.get? s.heap.objs.size = some o → h'.objs.size = s.heap.objs.size + 2 →
      (∀ b o, s.heap.get? b = some o → h'.get? b = some o) → Q (.ref (s.heap.objs.size + 1)) { s with heap := h' }) :
    wpAny (model prog w) A (call (.type "enumerate") [v]) Q E s := by
  refine callType_new F.called_enumerate (by decide) (F.typeCall_enumerate_1 _) (F.newCall_enumerate_1 _) (fun obj => F.args_object_init_2 obj _) F.entry_enumerate_new
    (meets_enumerate_newB1 B) ⟨h1, ?_⟩
  have hz : (s.heap.push o).objs.size = s.heap.objs.size + 1 := Heap.size_push ..
  show _ ∧ _
  rw [hz]
  have he : IsEnum ((s.heap.push o).push { cls := .type "enumerate", data := .fields #[.none, .bool false, .ref s.heap.objs.size, rawInt 0, .none, .none] }) (s.heap.objs.size + 1) s.heap.objs.size 0 .none := by
    have := Heap.get?_push_size (s.heap.push o) (o := { cls := .type "enumerate", data := .fields #[.none, .bool false, .ref s.heap.objs.size, rawInt 0, .none, .none] }) rfl
    rw [hz] at this; exact this
  refine ⟨⟨_, he, rfl⟩, h _ he (Heap.get?_push_of_some _ (Heap.get?_push_size _ B.free)) (by rw [Heap.size_push, hz]) fun b o x => Heap.get?_push_of_some _ (Heap.get?_push_of_some _ x)⟩
/-- the tuple at a, each item in a new pair -/
def IteT (K : PySem.W.Frag) (a : Addr) : It :=
  ⟨fun i H => ∃ (xs : List V) (x : V), SqT K H a xs ∧ xs[i]? = some x, fun i H v H' => ∃ T x, v = .ref T ∧ H T = none ∧ H' = upd H T (.tup [.int (i : Nat), x]) ∧ ∀ xs, SqT K H a xs → xs[i]? = some x, fun i H => ∃ xs : List V, SqT K H a xs ∧ xs.length = i⟩
theorem turn_enumT {P : Program} {w : World} {K : PySem.W.Frag} {elts : List Expr} {kk : Nat} {tpos : Pos} (a e it : Addr) :
    Turn P w K (.Tuple elts kk tpos) (IteT K a) [e, it] e (fun i h => (∃ old, IsEnum h e it ((i : Nat) : Int) old) ∧ h.IsTupleIter it a i ∧ e ≠ it ∧ e ≠ a ∧ a ≠ it) where
  mem := by simp
  obj := fun i h st b hb => by
    obtain ⟨⟨old, he⟩, ⟨o, ho, hc, hd⟩, _⟩ := st
    have e' : b = e ∨ b = it := by simpa using hb
    rcases e' with z | z
    · rw [z]; exact ⟨_, he, fun v q => nomatch q⟩
    · rw [z]; exact ⟨o, ho, fun v q => by rw [hd] at q; cases q⟩
  keep := fun i h h' st k => let ⟨⟨old, he⟩, hi, hne⟩ := st; ⟨⟨old, k e (by simp) _ he⟩, hi.at fun o q => k it (by simp) o q, hne⟩
  item := by
    intro X hP hw hK hc i pins s σ H E I hf st hg
    subst hP hw hK
    obtain ⟨⟨old, he⟩, hit, hne, hea, hai⟩ := st
    obtain ⟨xs, x, hq, hx⟩ := hg
    obtain ⟨its, rv, p, hz⟩ := I.tuple hq
    obtain ⟨u, hu, ru⟩ := rv.get hx
    have hel : e < s.heap.objs.size := Heap.lt_size he
    have hil : it < s.heap.objs.size := by obtain ⟨_, q, _⟩ := hit; exact Heap.lt_size q
    have hix : i < its.toArray.size := by
      have := List.getElem?_eq_some_iff.mp hu
      obtain ⟨q, _⟩ := this
      simpa using q
    have hda : X.A.in1.handled = none := I.ok.hd hc
    refine wpAny_pyNext_enum_itemC (Draws.tuple (prog := X.prog) (w := X.w) (A := X.A.in1) hda it a hai its.toArray) he ⟨hit, p⟩ hix hne (by simp [hne, hea]) fun u' h' tk hu' ho hit' hT hsz hk => ?_
    have hu2 : its.toArray[i]? = some u := by simpa using hu
    have eu : u' = u := Option.some.inj (hu'.symm.trans hu2)
    subst eu
    refine ⟨_, rfl, wpAny_letOwnedTupleGo_enum (s := { s with heap := h', toks := tk + 1 }) ho fun h'' he' sb => ?_⟩
    have hT2 : h''.get? s.heap.objs.size = some { cls := .type "tuple", data := .seq #[.int i tk, u'] } := (sb.2 _ (Nat.ne_of_gt hel)).trans hT
    have new : ObjOk X.prog X.w (upd H s.heap.objs.size (.tup [.int (i : Nat), x])) h'' s.heap.objs.size (.tup [.int (i : Nat), x]) :=
      ⟨by show 2 ≤ sizeLine; decide, [.int i tk, u'], .cons ⟨_, rfl⟩ (.cons ru .nil), ⟨_, hT2, rfl, _, rfl⟩⟩
    have I1 : Inv X pins σ (upd H s.heap.objs.size (.tup [.int (i : Nat), x])) { s with heap := h'', toks := tk + 1 } :=
      I.turnedNew (ch := [e, it]) (fun b ob hb q => (sb.2 b (fun z => hb (by simp [z]))).trans (hk b ob (fun z => hb (by simp [z])) (fun z => hb (by simp [z])) q)) hf (Nat.le_refl _) new
    refine ⟨.ref s.heap.objs.size, _, I1, rfl, ⟨_, x, rfl, I.hok.fresh (Nat.le_refl _), rfl, fun ys hy => by rw [I.tuple_inj hy hq]; exact hx⟩, ⟨⟨u', ?_⟩, hit'.1.at fun o q => (sb.2 it (Ne.symm hne)).trans q, hne, hea, hai⟩, fun b hb => ?_⟩
    · have e1 : ((i + 1 : Nat) : Int) = (i : Int) + 1 := by omega
      rw [e1]; exact he'
    · have hb' : b < s.heap.objs.size := by
        have e' : b = e ∨ b = it := by simpa using hb
        rcases e' with z | z
        · rw [z]; exact hel
        · rw [z]; exact hil
      rw [upd_ne (Nat.ne_of_lt hb')]
      exact (hf b hb).1
  done := by
    intro X hP hw hK hc i pins s σ H E I hf st hg
    subst hP hw hK
    obtain ⟨⟨old, he⟩, hit, hne, hea, hai⟩ := st
    obtain ⟨xs, hq, hx⟩ := hg
    obtain ⟨its, rv, p, hz⟩ := I.tuple hq
    obtain ⟨f0, f1, f2, f3, f4, f5⟩ := hf it (by simp)
    have hl := rv.length
    have hi : its.toArray.size = i := by simp only [List.size_toArray]; omega
    have hda : X.A.in1.handled = none := I.ok.hd hc
    exact wpAny_pyNext_enum_endD (Draws.tuple (prog := X.prog) (w := X.w) (A := X.A.in1) hda it a hai its.toArray) he ⟨by rw [hi]; exact hit, p⟩ fun h' eb => ⟨rfl, I.turned (t' := s.toks) (fun b o hb q => eb b o hb q) f0 f1 f3 f4 f5⟩
  self := fun A i s Q E st h => let ⟨⟨_, he⟩, _⟩ := st; wpAny_pyIter_enum he h
def iEnumT (K : PySem.W.Frag) (ta : TA) : TI := fun σ H R => ta σ H fun vs H1 => ∃ a xs, vs = [.ref a] ∧ SqT K H1 a xs ∧ R (IteT K a) H1
theorem pi_enumT {X : Cx} {e : Expr} {ta : TA} {p pos tpos : Pos} {elts : List Expr} {kk : Nat} (hg : Gl X "enumerate") (hm : X.mg "enumerate" = none) (ha : PA X [e] ta) (hs : starEach [e] X.env = [(false, eval e X.env)] := by rfl) :
    PI X (.Tuple elts kk tpos) (.Call (.Name "enumerate" p) [e] [] pos) (iEnumT X.K ta) := by
  refine ⟨fun pins s σ H R I h => ?_⟩
  refine Call_ (ld_blt I hg hm boot_enumerate (PyProof.Rows.callWith_type1 (thn (ha.run pos pins s σ H _ I h) fun us s1 ⟨vs, H1, I1, r1, q1⟩ => ?_) hs rfl))
  obtain ⟨a, xs, ex, hq, q⟩ := q1
  subst ex
  cases r1 with
  | cons r rr =>
    cases rr
    cases r
    obtain ⟨its, rv, p', hz⟩ := I1.tuple hq
    have hal : a < s1.heap.objs.size := by obtain ⟨o1, ho1, _⟩ := id p'; exact Heap.lt_size ho1
    refine enum_begins1 (begins_tuple a its.toArray) p' fun h' he hit hsz hk => wpAny_pyIter_enum he ?_
    have I2 : Inv X pins σ H1 { s1 with heap := h' } := I1.kept (t' := s1.toks) hk
    refine ⟨s1.heap.objs.size + 1, [s1.heap.objs.size + 1, s1.heap.objs.size], _, _, H1, rfl, I2, turn_enumT a (s1.heap.objs.size + 1) s1.heap.objs.size, ⟨⟨.none, he⟩, ⟨_, hit, rfl, rfl⟩, Nat.succ_ne_self _, ?_, Nat.ne_of_lt hal⟩, fun b hb => ?_, q⟩
    · exact Nat.ne_of_gt (Nat.lt_succ_of_lt hal)
    have e' : b = s1.heap.objs.size + 1 ∨ b = s1.heap.objs.size := by simpa using hb
    have hle : s1.heap.objs.size ≤ b := by
      rcases e' with z | z
      · rw [z]; exact Nat.le_add_right _ _
      · rw [z]; exact Nat.le_refl _
    exact I1.fpOk hle (I1.hok.fresh hle)
theorem walk_enumT {K : PySem.W.Frag} {a : Addr} {xs : List V} : Walk (IteT K a) xs.length (fun H => SqT K H a xs) (YPair (fun i => some (.int (i : Nat))) (fun i => xs[i]?)) := by
  refine ⟨fun i _ hi q => ⟨xs, xs[i], q, by simp [hi]⟩, fun _ q => ⟨xs, q, rfl⟩, fun i H v H' _ q y => ?_⟩
  obtain ⟨T, x, h1, h2, h3, h4⟩ := y
  exact ⟨T, .int (i : Nat), x, h1, h2, h3, rfl, h4 xs q⟩
/-! zip of a tuple and a list -/
def ItzM (K : PySem.W.Frag) (a b : Addr) : It :=
  ⟨fun i H => ∃ (xs ys : List V) (x y : V), SqT K H a xs ∧ SqL K H b ys ∧ xs[i]? = some x ∧ ys[i]? = some y,
    fun i H v H' => ∃ T x y, v = .ref T ∧ H T = none ∧ H' = upd H T (.tup [x, y]) ∧ (∀ xs, SqT K H a xs → xs[i]? = some x) ∧ ∀ ys, SqL K H b ys → ys[i]? = some y,
    fun i H => ∃ xs ys : List V, SqT K H a xs ∧ SqL K H b ys ∧ i = min xs.length ys.length⟩
theorem turn_zipM {P : Program} {w : World} {K : PySem.W.Frag} {elts : List Expr} {kk : Nat} {tpos : Pos} {a b z TI TO i1 i2 : Addr} (S : ZipSep2 z TI TO i1 i2 [i1, a] [i2, b]) (h1a : a ≠ i1) (h2b : b ≠ i2) :
    Turn P w K (.Tuple elts kk tpos) (ItzM K a b) [z, TI, TO, i1, i2] z (fun i h => IsZip h z TI TO .none ∧ IsTupOf2 h TI (.ref i1) (.ref i2) ∧ (∃ x y, IsTupOf2 h TO x y) ∧ h.IsTupleIter i1 a i ∧ h.IsListIter i2 b i) where
  mem := by simp
  obj := fun i h st c hc => by
    obtain ⟨hz, hTI, ⟨x, y, hTO⟩, ⟨o1, e1, _, d1⟩, ⟨o2, e2, _, d2⟩⟩ := st
    have e' : c = z ∨ c = TI ∨ c = TO ∨ c = i1 ∨ c = i2 := by simpa using hc
    rcases e' with q | q | q | q | q
    · rw [q]; exact ⟨_, hz, fun v q => nomatch q⟩
    · rw [q]; exact ⟨_, hTI, fun v q => nomatch q⟩
    · rw [q]; exact ⟨_, hTO, fun v q => nomatch q⟩
    · rw [q]; exact ⟨o1, e1, fun v q => by rw [d1] at q; cases q⟩
    · rw [q]; exact ⟨o2, e2, fun v q => by rw [d2] at q; cases q⟩
  keep := fun i h h' st k => by
    obtain ⟨hz, hTI, ⟨x, y, hTO⟩, h1, h2⟩ := st
    exact ⟨k z (by simp) _ hz, k TI (by simp) _ hTI, ⟨x, y, k TO (by simp) _ hTO⟩, h1.at fun o q => k i1 (by simp) o q, h2.at fun o q => k i2 (by simp) o q⟩
  item := by
    intro X hP hw hK hc i pins s σ H E I hf st hg
    subst hP hw hK
    obtain ⟨hz, hTI, ⟨x0, y0, hTO⟩, h1, h2⟩ := st
    obtain ⟨xs, ys, x, y, hqx, hqy, hx, hy⟩ := hg
    obtain ⟨its, rv, p, _⟩ := I.tuple hqx
    obtain ⟨its2, rv2, p2, _⟩ := I.list hqy
    obtain ⟨u, hu, ru⟩ := rv.get hx
    obtain ⟨u2, hu2, ru2⟩ := rv2.get hy
    have hzl : z < s.heap.objs.size := Heap.lt_size hz
    have hn1 : i < its.toArray.size := by
      obtain ⟨q, _⟩ := List.getElem?_eq_some_iff.mp hu
      simpa using q
    have hn2 : i < its2.toArray.size := by
      obtain ⟨q, _⟩ := List.getElem?_eq_some_iff.mp hu2
      simpa using q
    have hda : X.A.in1.handled = none := I.ok.hd hc
    refine wpAny_pyNext_zipD2_item S (Draws.tuple (prog := X.prog) (w := X.w) (A := X.A.in1) hda i1 a h1a its.toArray) (Draws.list (prog := X.prog) (w := X.w) (A := X.A.in1) hda i2 b h2b its2.toArray) hz hTI hTO ⟨h1, p⟩ ⟨h2, p2.isList⟩ hn1 hn2
      fun v1 v2 h' tk e1 e2 z' TO' h1' h2' hT hsz hk => ?_
    have ev1 : v1 = u := by
      have q : its.toArray[i]? = some u := by simpa using hu
      exact Option.some.inj (e1.symm.trans q)
    have ev2 : v2 = u2 := by
      have q : its2.toArray[i]? = some u2 := by simpa using hu2
      exact Option.some.inj (e2.symm.trans q)
    subst ev1 ev2
    refine ⟨_, rfl, wpAny_letOwnedTupleGo_zip (s := { s with heap := h', toks := tk }) z' fun h'' z'' sb => ?_⟩
    have hT2 : h''.get? s.heap.objs.size = some { cls := .type "tuple", data := .seq #[v1, v2] } := (sb.2 _ (Nat.ne_of_gt hzl)).trans hT
    have new : ObjOk X.prog X.w (upd H s.heap.objs.size (.tup [x, y])) h'' s.heap.objs.size (.tup [x, y]) :=
      ⟨by show 2 ≤ sizeLine; decide, [v1, v2], .cons ru (.cons ru2 .nil), ⟨_, hT2, rfl, _, rfl⟩⟩
    have I1 : Inv X pins σ (upd H s.heap.objs.size (.tup [x, y])) { s with heap := h'', toks := tk } :=
      I.turnedNew (ch := [z, TI, TO, i1, i2]) (fun c o hb q => (sb.2 c (fun q' => hb (by simp [q']))).trans (hk c o (fun q' => hb (by simp [q'])) (fun q' => hb (by simp [q'])) (fun q' => hb (by simp [q'])) (fun q' => hb (by simp [q'])) q)) hf (Nat.le_refl _) new
    have ii1 : i1 ≠ z := fun q => S.zf1 (by simp [q])
    have ii2 : i2 ≠ z := fun q => S.zf2 (by simp [q])
    refine ⟨.ref s.heap.objs.size, _, I1, rfl, ⟨_, x, y, rfl, I.hok.fresh (Nat.le_refl _), rfl, fun l hl => by rw [I.tuple_inj hl hqx]; exact hx, fun l hl => by rw [I.list_inj hl hqy]; exact hy⟩, ⟨z'', ?_, ⟨v1, v2, ?_⟩, ?_, ?_⟩, fun c hcm => ?_⟩
    · exact (sb.2 _ S.TIz).trans (hk _ _ S.TIz S.TITO S.TIi1 S.TIi2 hTI)
    · exact (sb.2 _ S.TOz).trans TO'
    · exact h1'.1.at fun o q => (sb.2 _ ii1).trans q
    · exact h2'.1.at fun o q => (sb.2 _ ii2).trans q
    · have hlt : c < s.heap.objs.size := by
        have e' : c = z ∨ c = TI ∨ c = TO ∨ c = i1 ∨ c = i2 := by simpa using hcm
        rcases e' with q | q | q | q | q
        · rw [q]; exact hzl
        · rw [q]; exact Heap.lt_size hTI
        · rw [q]; exact Heap.lt_size hTO
        · rw [q]; obtain ⟨_, e1, _⟩ := h1; exact Heap.lt_size e1
        · rw [q]; obtain ⟨_, e2, _⟩ := h2; exact Heap.lt_size e2
      rw [upd_ne (Nat.ne_of_lt hlt)]
      exact (hf c hcm).1
  done := by
    intro X hP hw hK hc i pins s σ H E I hf st hg
    subst hP hw hK
    obtain ⟨hz, hTI, ⟨x0, y0, hTO⟩, h1, h2⟩ := st
    obtain ⟨xs, ys, hqx, hqy, hend⟩ := hg
    obtain ⟨its, rv, p, _⟩ := I.tuple hqx
    obtain ⟨its2, rv2, p2, _⟩ := I.list hqy
    have l1 := rv.length
    have l2 := rv2.length
    have hda : X.A.in1.handled = none := I.ok.hd hc
    exact wpAny_pyNext_zipD2_end S (Draws.tuple (prog := X.prog) (w := X.w) (A := X.A.in1) hda i1 a h1a its.toArray) (Draws.list (prog := X.prog) (w := X.w) (A := X.A.in1) hda i2 b h2b its2.toArray) hz hTI hTO ⟨h1, p⟩ ⟨h2, p2.isList⟩
      (by simp only [List.size_toArray]; omega) (by simp only [List.size_toArray]; omega) (by simp only [List.size_toArray]; omega) fun h' tk hk => ⟨rfl, I.turnedL (t' := tk) (ch := [z, TI, TO, i1, i2]) (fun c o hb q =>
      hk c o (fun q' => hb (by simp [q'])) (fun q' => hb (by simp [q'])) (fun q' => hb (by simp [q'])) (fun q' => hb (by simp [q'])) q) hf⟩
  self := fun A i s Q E st h => wpAny_pyIter_zip st.1 h
def iZipM (K : PySem.W.Frag) (ta : TA) : TI := fun σ H R => ta σ H fun vs H1 => ∃ a b xs ys, vs = [.ref a, .ref b] ∧ SqT K H1 a xs ∧ SqL K H1 b ys ∧ R (ItzM K a b) H1
theorem pi_zipTL {X : Cx} {e e2 : Expr} {ta : TA} {p pos tpos : Pos} {elts : List Expr} {kk : Nat} (hg : Gl X "zip") (hm : X.mg "zip" = none) (ha : PA X [e, e2] ta)
    (hs : starEach [e, e2] X.env = (false, eval e X.env) :: starEach [e2] X.env := by rfl) (hpl : (backTo pos (starEach [e2] X.env)).any (·.1) = false := by rfl) :
    PI X (.Tuple elts kk tpos) (.Call (.Name "zip" p) [e, e2] [] pos) (iZipM X.K ta) := by
  refine ⟨fun pins s σ H R I h => ?_⟩
  refine Call_ (ld_blt I hg hm PyProof.Rows.boot_zip (PyProof.Rows.callWith_type1 (thn (ha.run pos pins s σ H _ I h) fun us s1 ⟨vs, H1, I1, r1, q1⟩ => ?_) hs hpl))
  obtain ⟨a, b, xs, ys, ex, hqx, hqy, q⟩ := q1
  subst ex
  cases r1 with
  | cons r rr =>
    cases rr with
    | cons r' rr =>
      cases rr
      cases r
      cases r'
      have fresh5 : ∀ c, c ∈ [s1.heap.objs.size + 4, s1.heap.objs.size + 2, s1.heap.objs.size + 3, s1.heap.objs.size, s1.heap.objs.size + 1] → FpOk X pins H1 c := fun c hcm => by
        have e' : c = s1.heap.objs.size + 4 ∨ c = s1.heap.objs.size + 2 ∨ c = s1.heap.objs.size + 3 ∨ c = s1.heap.objs.size ∨ c = s1.heap.objs.size + 1 := by simpa using hcm
        have hle : s1.heap.objs.size ≤ c := by
          rcases e' with z | z | z | z | z
          · rw [z]; exact Nat.le_add_right _ _
          · rw [z]; exact Nat.le_add_right _ _
          · rw [z]; exact Nat.le_add_right _ _
          · rw [z]; exact Nat.le_refl _
          · rw [z]; exact Nat.le_add_right _ _
        exact I1.fpOk hle (I1.hok.fresh hle)
      obtain ⟨its, rv, p1, _⟩ := I1.tuple hqx
      obtain ⟨its2, rv2, p2, _⟩ := I1.list hqy
      have hal : a < s1.heap.objs.size := by obtain ⟨o1, ho1, _⟩ := id p1; exact Heap.lt_size ho1
      have hbl : b < s1.heap.objs.size := p2.lt
      refine zip_begins2 (begins_tuple a its.toArray) (begins_list b its2.toArray) p1 p2.isList fun h' hz hTI hTO h1 h2 hsz hk => wpAny_pyIter_zip hz ?_
      have I2 : Inv X pins σ H1 { s1 with heap := h' } := I1.kept (t' := s1.toks) hk
      have S := zip_sep2 (N := s1.heap.objs.size) (fp1 := [a]) (fp2 := [b]) (by simpa using hal) (by simpa using hbl)
      exact ⟨s1.heap.objs.size + 4, [s1.heap.objs.size + 4, s1.heap.objs.size + 2, s1.heap.objs.size + 3, s1.heap.objs.size, s1.heap.objs.size + 1], _, _, H1, rfl, I2, turn_zipM S (Nat.ne_of_lt hal) (Nat.ne_of_lt (Nat.lt_succ_of_lt hbl)),
        ⟨hz, hTI, ⟨_, _, hTO⟩, ⟨_, h1, rfl, rfl⟩, ⟨_, h2, rfl, rfl⟩⟩, fresh5, q⟩
theorem walk_zipTL {K : PySem.W.Frag} {a b : Addr} {xs ys : List V} {n : Nat} (hn : n = min xs.length ys.length) : Walk (ItzM K a b) n (fun H => SqT K H a xs ∧ SqL K H b ys) (YPair (fun i => xs[i]?) (fun i => ys[i]?)) := by
  subst hn
  refine ⟨fun i _ hi q => ?_, fun _ q => ⟨xs, ys, q.1, q.2, rfl⟩, fun i H v H' _ q y => ?_⟩
  · have h1 : i < xs.length := by omega
    have h2 : i < ys.length := by omega
    exact ⟨xs, ys, xs[i], ys[i], q.1, q.2, by simp [h1], by simp [h2]⟩
  · obtain ⟨T, x, z, h1, h2, h3, h4, h5⟩ := y
    exact ⟨T, x, z, h1, h2, h3, h4 xs q.1, h5 ys q.2⟩
theorem walk_zipT {K : PySem.W.Frag} {a b : Addr} {xs ys : List V} {n : Nat} (hn : n = min xs.length ys.length) : Walk (RZ.ItzT K a b) n (fun H => SqT K H a xs ∧ SqT K H b ys) (YPair (fun i => xs[i]?) (fun i => ys[i]?)) := by
  subst hn
  refine ⟨fun i _ hi q => ?_, fun _ q => ⟨xs, ys, q.1, q.2, by omega⟩, fun i H v H' _ q y => ?_⟩
  · have h1 : i < xs.length := by omega
    have h2 : i < ys.length := by omega
    exact ⟨xs, ys, xs[i], ys[i], q.1, q.2, by simp [h1], by simp [h2]⟩
  · obtain ⟨T, x, z, h1, h2, h3, h4, h5⟩ := y
    exact ⟨T, x, z, h1, h2, h3, h4 xs q.1, h5 ys q.2⟩
end Pk
set_option Elab.async false
set_option linter.all false
set_option maxRecDepth 100000
set_option maxHeartbeats 4000000
/-! Rules the hand layer lacks: a star target, several attribute targets. -/
namespace Pk
open PySem PySem.Spec PyProof.Rows L2
section
variable {prog : Program} {w : World} {A : Around} {E : Value → Shared → Prop} {s : Shared}
theorem unpack_starT {l : Addr} {items : Array Value} {i : Nat} {Q : List Value → Shared → Prop} (hl : IsTup s.heap l items) (hh : A.handled = none) (hn : i ≤ items.size) (hz : items.size ≤ sizeLine)
    (h : ∀ (h' : Heap) (tk : Nat), (∀ b o, s.heap.get? b = some o → h'.get? b = some o) → Q (items.toList.take i ++ [.ref h'.objs.size]) { s with heap := h'.push { cls := .type "list", data := .seq (items.toList.drop i).toArray 0 }, toks := tk }) :
    wpAny (model prog w) A (unpackItems (.ref l) (i + 1) (some i)) Q E s := by
  have hlt : l ≠ s.heap.objs.size := by obtain ⟨o, ho, _⟩ := hl; exact Nat.ne_of_lt (Heap.lt_size ho)
  have hll : l < s.heap.objs.size := by obtain ⟨o, ho, _⟩ := hl; exact Heap.lt_size ho
  unfold unpackItems
  refine wpAny_bind ?_
  unfold notIterableAtAll
  refine wpAny_bind (wpAny_specialOf hl.typeIs slot_tuple_iter.lookup ?_)
  refine wpAny_pure ?_
  simp only [Bool.false_eq_true, if_false]
  refine wpAny_bind (wpAny_holding (iter_tuple hl ?_))
  refine wpAny_bind (wpAny_holding (draw_tuple hlt i 0 _ _ ⟨_, Heap.get?_push_size _ rfl, rfl, rfl⟩ (hl.push _) (by omega) fun h₁ hit₁ hs₁ => ?_))
  have hl₁ : IsTup h₁ l items := (hl.push _).extBut hs₁.extBut hlt
  rw [Nat.zero_add] at hit₁
  have hit₁' := hit₁
  obtain ⟨oi, hoi, _⟩ := hit₁'
  have hl₁' := hl₁
  obtain ⟨ol, hol, _⟩ := hl₁'
  rw [List.drop_zero]
  have hfl : (items.toList.take i).length = i := by rw [List.length_take, Array.length_toList]; omega
  rw [if_neg (show ¬ ((items.toList.take i).length < i) by rw [hfl]; omega)]
  refine wpAny_bind (wpAny_holding (PySem.W.kun_collect (s := { s with heap := h₁ }) (T := "tuple_iterator") (.inr (.inr (.inr rfl))) (Walks.tuple (A := A.in1) hh s.heap.objs.size l hlt items) (fun j u st => st.1.typeIs) (k := i) (by omega) ⟨hit₁, hl₁⟩ (Heap.lt_size hoi) (Heap.lt_size hol) (fun h₂ tk hk => ?_) hz))
  have hrl : (items.toList.drop i).length = items.size - i := by rw [List.length_drop, Array.length_toList]
  have e0 : i + 1 - 1 - i = 0 := by omega
  show wpAny _ _ (if (items.toList.drop i).length < i + 1 - 1 - i then _ else _) _ _ _
  rw [e0]
  rw [if_neg (Nat.not_lt_zero _)]
  show wpAny _ _ (newList ((items.toList.drop i).take ((items.toList.drop i).length - 0)) >>= fun d => pure (items.toList.take i ++ [d] ++ (items.toList.drop i).drop ((items.toList.drop i).length - 0))) _ _ _
  rw [Nat.sub_zero, List.take_length, List.drop_length]
  have he : Heap.ExtBut s.heap.objs.size s.heap h₂ := fun b o hb e => hk b o hb (hs₁.extBut b o hb (Heap.get?_push_of_some _ e))
  refine wpAny_bind (wpAny_newObj_type (wpAny_pure ?_) (by show (items.toList.drop i).toArray.size ≤ sizeLine; rw [List.size_toArray, hrl]; omega))
  rw [List.append_nil]
  exact h _ tk (fun b o e => he b o (Nat.ne_of_lt (Heap.lt_size e)) e)
end
def unstar : Expr → Expr
  | .Starred t _ => t
  | t => t
/-- a, .., *b = a tuple: m names ahead -/
def gStarT (K : PySem.W.Frag) (m : Nat) (t : TGs) : TG := fun v σ H Q => ∃ a xs, v = .ref a ∧ SqT K H a xs ∧ m ≤ xs.length ∧ ∀ D, H D = none → t (xs.take m ++ [.ref D]) σ (upd H D (.lst (xs.drop m))) Q
section
variable {X : Cx} {pos : Pos}
theorem pg_star {es : List Expr} {k m : Nat} {t : TGs} (hc : X.calm = true) (h : PGs X (es.map unstar) t) (hmap : (assignEach es X.env).map (·.2) = (assignEach (es.map unstar) X.env).map (·.2) := by rfl)
    (hn : (assignEach es X.env).length = m + 1 := by rfl) (hst : (assignEach es X.env).findIdx? (·.1) = some m := by rfl) : PG X (.Tuple es k pos) (gStarT X.K m t) := by
  refine ⟨fun pins s σ H v u Q I r hw => ?_⟩
  obtain ⟨a, xs, e1, hq, hl, hw⟩ := hw
  subst e1
  cases r
  obtain ⟨its, rv, ht, hz⟩ := I.tuple hq
  have hlen := rv.length
  rw [assign_Tuple]
  refine wpAny_bind (wpAny_standAt ?_)
  unfold unpack
  rw [hn, hst]
  refine wpAny_bind (wpAny_holding (unpack_starT (show IsTup s.heap a its.toArray from ht) (I.ok.hd hc) (by simp only [List.size_toArray]; omega) (by simp only [List.size_toArray]; omega) fun h' tk hk => ?_))
  have I1 : Inv X pins σ H { s with heap := h', toks := tk } := I.kept hk
  have hf : H h'.objs.size = none := I1.hok.fresh (Nat.le_refl _)
  have I2 : Inv X pins σ (upd H h'.objs.size (.lst (xs.drop m))) { s with heap := h'.push { cls := .type "list", data := .seq (its.drop m).toArray 0 }, toks := tk } :=
    I1.laid (t' := tk) (fun b u e => Heap.get?_push_of_some _ e) (Nat.le_refl _) ⟨by rw [List.length_drop]; omega, its.drop m, 0, rv.drop m, Heap.get?_push_size _ rfl⟩
  rw [hmap]
  exact h.run pins _ σ _ _ _ Q I2 ((rv.take m).append (.cons (show RelV (.ref h'.objs.size) (.ref h'.objs.size) from rfl) .nil)) (hw _ hf)
end
theorem pg_tupK {X : Cx} {K : PySem.W.Frag} {pos : Pos} {es : List Expr} {k : Nat} {t : TGs} {n : Nat} (hK : X.K = K) (hc : X.calm = true) (h : PGs X es t)
    (hn : (assignEach es X.env).length = n := by rfl) (hst : (assignEach es X.env).findIdx? (·.1) = none := by rfl) : PG X (.Tuple es k pos) (gTup K n t) := by
  subst hK
  exact pg_tup hc h hn hst
/-- o.f = v as one of several targets -/
def gFld (K : PySem.W.Frag) (ta : TE) (f : Str) : TG := fun v σ H Q => ta σ H fun x H2 => ∃ a C dx fs, x = .ref a ∧ H2 a = some (.ins C dx fs) ∧ Cls K C ∧ NoAttr K C f ∧ fs.length < 1000 ∧ Q σ (upd H2 a (.ins C dx (putF f v fs)))
section
variable {X : Cx} {pos : Pos} {o : Expr} {f : Str} {to : TE}
theorem pg_fld (ho : PE X o to) (ha : ∀ v, assign (.Attribute o f pos) X.env v = (do
      let ov ← holding [v] (eval o X.env)
      standAt pos.atName
      holding [v, ov] (setAttr ov f v)
      release [v, ov] []) := by intro _; rfl) : PG X (.Attribute o f pos) (gFld X.K to f) := by
  refine ⟨fun pins s σ H v u Q I r h => ?_⟩
  rw [ha]
  refine wpAny_bind (wpAny_holding (thn (ho.run pins s σ H _ I h) fun ov s1 ⟨x, H1, I1, r1, q1⟩ => ?_))
  obtain ⟨a, C, dx, fs, ex, ea, c, n, l, q⟩ := q1
  subst ex
  obtain rfl : ov = Value.ref a := r1
  refine wpAny_bind (wpAny_standAt (wpAny_bind (wpAny_holding (setattr_ok I1 ea c n l r fun s3 I3 => ?_))))
  exact wpAny_release ⟨σ, _, I3, q⟩
end
end Pk
set_option Elab.async false
set_option linter.all false
set_option maxRecDepth 100000
set_option maxHeartbeats 4000000
/-! Rules the hand layer lacks: a dict whose keys are tuples that hold texts, ints and None. -/
namespace Pk
open PySem PySem.Spec PyProof.Rows L2
open Sem (wp)
def nk : Rk → NestedKey := fun k => .tup [.text k.1, .text k.2.1, match k.2.2 with
  | none => .none
  | some i => .num i]
def rkV : Rk → List V := fun k => [.str k.1, .str k.2.1, match k.2.2 with
  | none => .non
  | some i => .int i]
theorem nk_inj {a b : Rk} (h : nk a = nk b) : a = b := by
  obtain ⟨a1, a2, a3⟩ := a
  obtain ⟨b1, b2, b3⟩ := b
  unfold nk at h
  cases a3 <;> cases b3 <;> simp at h <;> simp [h]
section
variable {P : Program} {w : World} {K : PySem.W.Frag}
/-- the raw dict at d -/
def RawD (P : Program) (w : World) (d : Addr) (xs : List (NestedKey × Addr × Value)) (h : Heap) : Prop :=
  (d == sysModules) = false ∧ ∃ o es ep, h.get? d = some o ∧ o.ExactDict ∧ o.data = .dict es ep ∧ es.toList = xs.map (entryOfKey (nestedKind P w)) ∧ (xs.map (·.1)).Nodup
/-- a dict with these keys -/
def Ruled (P : Program) (w : World) (K : PySem.W.Frag) (H : Hp) (d : Addr) (ks : List Rk) : Prop :=
  ∃ xs, H d = some (.ext (RawD P w d xs)) ∧ Paired (fun (k : Rk) (x : NestedKey × Addr × Value) => x.1 = nk k ∧ SqT K H x.2.1 (rkV k)) ks xs
end
section
variable {X : Cx} {pins : List (Addr × Obj)} {σ : L2.St} {H : Hp} {s : Shared}
theorem key_is {p : Addr} {k : Rk} (I : Inv X pins σ H s) (h : SqT X.K H p (rkV k)) : (nestedKind X.prog X.w).is s.heap (nk k) p := by
  obtain ⟨its, rv, ht, hz⟩ := I.tuple h
  obtain ⟨o, ho, hc, n, hd⟩ := ht
  obtain ⟨k1, k2, k3⟩ := k
  refine ⟨.tup ho hc hd ?_, ?_⟩
  · have e : its.toArray.toList = its := by simp
    rw [e]
    cases k3 with
    | none =>
      match its, rv with
      | [v1, v2, v3], .cons r1 (.cons r2 (.cons r3 .nil)) =>
        obtain ⟨t1, rfl⟩ := r1
        obtain ⟨t2, rfl⟩ := r2
        cases r3
        exact .cons (.text _ _) (.cons (.text _ _) (.cons .none .nil))
    | some i =>
      match its, rv with
      | [v1, v2, v3], .cons r1 (.cons r2 (.cons r3 .nil)) =>
        obtain ⟨t1, rfl⟩ := r1
        obtain ⟨t2, rfl⟩ := r2
        obtain ⟨t3, rfl⟩ := r3
        exact .cons (.text _ _) (.cons (.text _ _) (.cons (.int _ _) .nil))
  · cases k3 <;> simp [nk, NestedKey.depth, NestedKey.depthAll]
theorem ruled_at {d : Addr} {ks : List Rk} (I : Inv X pins σ H s) (h : Ruled X.prog X.w X.K H d ks) : (d == sysModules) = false ∧ ∃ xs, s.heap.DictOfH (nestedKind X.prog X.w) d xs ∧ Paired (fun (k : Rk) (x : NestedKey × Addr × Value) => x.1 = nk k ∧ SqT X.K H x.2.1 (rkV k)) ks xs ∧ H d = some (.ext (RawD X.prog X.w d xs)) := by
  obtain ⟨xs, hd, hp⟩ := h
  obtain ⟨φ, _, _⟩ := I.hok d _ hd
  obtain ⟨hs, o, es, ep, ho, he, hda, hes, hn⟩ := φ
  refine ⟨hs, xs, ⟨o, es, ep, ho, he, hda, hes, ?_, hn⟩, hp, hd⟩
  have key : ∀ {ks : List Rk} {xs : List (NestedKey × Addr × Value)}, Paired (fun (k : Rk) (x : NestedKey × Addr × Value) => x.1 = nk k ∧ SqT X.K H x.2.1 (rkV k)) ks xs → ∀ x ∈ xs, (nestedKind X.prog X.w).is s.heap x.1 x.2.1 := by
    intro ks xs h
    induction h with
    | nil => intro x hx; cases hx
    | cons h t ih =>
      intro x hx
      rcases List.mem_cons.mp hx with rfl | hx
      · rw [h.1]; exact key_is I h.2
      · exact ih x hx
  exact key hp
theorem atKey_mem {H : Hp} {K : PySem.W.Frag} {ks : List Rk} {xs : List (NestedKey × Addr × Value)} (h : Paired (fun (k : Rk) (x : NestedKey × Addr × Value) => x.1 = nk k ∧ SqT K H x.2.1 (rkV k)) ks xs) (k : Rk) : (atKey xs (nk k)).isSome = decide (k ∈ ks) := by
  induction h with
  | nil => rfl
  | @cons a b l₁ l₂ h t ih =>
    by_cases e : a = k
    · subst e
      simp [atKey, h.1]
    · have e2 : ¬ b.1 = nk k := fun q => e (nk_inj (h.1.symm.trans q))
      have e3 : ¬ k = a := fun q => e q.symm
      have ih2 : (List.find? (fun x => decide (x.fst = nk k)) l₂).isSome = decide (k ∈ l₁) := by simpa [atKey] using ih
      simp [atKey, e2, e3, ih2]
theorem op_inRuled (hu : X.A.units + 64 < cLine) : OpR X (compareOp .In) (fun x y H Q => ∃ p d k ks, x = .ref p ∧ y = .ref d ∧ SqT X.K H p (rkV k) ∧ Ruled X.prog X.w X.K H d ks ∧ Q (.bl (decide (k ∈ ks))) H) := by
  intro pins s σ H x y v u Q I rx ry h
  obtain ⟨p, d, k, ks, rfl, rfl, hp, hd, q⟩ := h
  cases rx
  cases ry
  obtain ⟨hs, xs, hx, hpp, _⟩ := ruled_at I hd
  refine wpAny_in_heap (knd := nestedKind X.prog X.w) (show X.A.in1.units + 8 < cLine from by show X.A.units + 1 + 8 < cLine; omega) (key_is I hp) hs hx ?_
  rw [atKey_mem hpp]
  exact ⟨.bl _, H, I.tok _, rfl, q⟩
theorem set_ruled (hu : X.A.units + 64 < cLine) : PSet X (fun o i v H Q => ∃ p d k ks, o = .ref d ∧ i = .ref p ∧ SqT X.K H p (rkV k) ∧ Ruled X.prog X.w X.K H d ks ∧ k ∉ ks ∧ ks.length ≤ 1000000 ∧ ∀ φ, Ruled X.prog X.w X.K (upd H d (.ext φ)) d (ks ++ [k]) → Q (upd H d (.ext φ))) := by
  intro pins s σ H o i v ov iv u Q I ro ri rv h
  obtain ⟨p, d, k, ks, rfl, rfl, hp, hd, hk, hl, q⟩ := h
  cases ro
  cases ri
  obtain ⟨hs, xs, hx, hpp, hH⟩ := ruled_at I hd
  have hn : atKey xs (nk k) = none := by
    have := atKey_mem hpp k
    rw [decide_eq_false hk] at this
    exact Option.isSome_eq_false_iff.mp this |> Option.isNone_iff_eq_none.mp
  refine wpAny_setItem_heap (knd := nestedKind X.prog X.w) (show X.A.in1.units + 8 < cLine from by show X.A.units + 1 + 8 < cLine; omega) (key_is I hp) hx (fun h' hm hsb => ?_) (hsz := by rw [← Paired.length hpp]; exact Nat.le_trans hl (by decide))
  rw [storedH_new hn] at hm
  obtain ⟨o', es, ep, ho, he, hda, hes, his, hnd⟩ := hm
  have hφ : RawD X.prog X.w d (xs ++ [(nk k, p, u)]) h' := ⟨hs, o', es, ep, ho, he, hda, hes, hnd⟩
  have mono : ∀ {b xs0}, SqT X.K H b xs0 → SqT X.K (upd H d (.ext (RawD X.prog X.w d (xs ++ [(nk k, p, u)])))) b xs0 := fun {b xs0} h => by
    rcases h with h | h
    · refine Or.inl ?_
      rcases h with h | ⟨o', h⟩
      · by_cases e : b = d
        · subst e
          rw [hH] at h
          cases h
        · exact Or.inl (by rw [upd_ne e]; exact h)
      · by_cases e : b = d
        · subst e
          rw [hH] at h
          cases h
        · exact Or.inr ⟨o', by rw [upd_ne e]; exact h⟩
    · exact Or.inr h
  have I1 : Inv X pins σ (upd H d (.ext (RawD X.prog X.w d (xs ++ [(nk k, p, u)])))) { s with heap := h', toks := s.toks + (nestedKind X.prog X.w).draws (nk k) } := by
    refine I.write (x := d) (e := d) (by rw [hH]; exact True.intro) (.inl rfl) (fun b u hb e => (hsb.2 b hb).trans e) ⟨_, ho⟩ ⟨hφ, ⟨_, ho⟩, ?_⟩
    rintro h1 h2 ⟨a1, o1, es1, ep1, b1, b2, b3, b4, b5⟩ hk
    exact ⟨a1, o1, es1, ep1, hk _ b1, b2, b3, b4, b5⟩
  refine ⟨_, I1, q _ ⟨_, upd_same, Paired.snoc (Paired.mono (fun a b h => ⟨h.1, mono h.2⟩) hpp) ⟨rfl, mono hp⟩⟩⟩
/-- {} as such a dict -/
def tDNewX (P : Program) (w : World) : TE := fun _ H Q => ∀ d, H d = none → Q (.ref d) (upd H d (.ext (RawD P w d [])))
theorem pe_dnewX {pos : Pos} : PE X (.Dict [] [] pos) (tDNewX X.prog X.w) := ⟨fun pins s σ H Q I h => by
  refine wpAny_Dict_empty ⟨.ref s.heap.objs.size, _, I.laid (a := s.heap.objs.size) (o := .ext (RawD X.prog X.w s.heap.objs.size [])) (t' := s.toks) (fun _ _ q => Heap.get?_push_of_some _ q) (Nat.le_refl _) ?_, rfl, h _ (I.hok.fresh (Nat.le_refl _))⟩
  obtain ⟨hz, hs, _⟩ := dk_empty (P := X.prog) (w := X.w) (H := H) s.heap I.big
  refine ⟨⟨hs, _, _, _, Heap.get?_push_size _ rfl, ⟨rfl, rfl, rfl⟩, rfl, rfl, List.nodup_nil⟩, ⟨_, Heap.get?_push_size _ rfl⟩, ?_⟩
  rintro h1 h2 ⟨a1, o1, es1, ep1, b1, b2, b3, b4, b5⟩ hk
  exact ⟨a1, o1, es1, ep1, hk _ b1, b2, b3, b4, b5⟩⟩
end
end Pk
set_option Elab.async false
set_option linter.all false
set_option maxRecDepth 100000
set_option maxHeartbeats 4000000
/-! Loops over any walk; pairs taken apart; written dicts with text keys. -/
namespace Pk
open PySem PySem.Spec PyProof.Rows L2 Evl
section
variable {K : PySem.W.Frag} {σ : L2.St} {H H' : Hp} {ta tb tc te tx : TE} {t u : TT} {x y z v : V} {D : Ends} {tu tw tz : TS} {g : TG}
theorem s_forW {wi : TI} {J : It} {n : Nat} {G : Hp → Prop} {Y : Nat → Hp → V → Hp → Prop} (wk : Walk J n G Y) (h : ∀ R : It → Hp → Prop, (∀ H1, Ex H H1 → R J H1) → wi σ H R) (Pv : Nat → L2.St → Hp → Prop) (h0 : ∀ H1, Ex H H1 → Pv 0 σ H1)
    (hG : ∀ i σ H, i ≤ n → Pv i σ H → G H) (hs : ∀ i x σ' H1 H2, i < n → Pv i σ' H1 → Y i H1 x H2 → g x σ' H2 fun σ2 H3 => tu { D with nx := Pv (i + 1), ct := Pv (i + 1), bk := D.nx } σ2 H3) (hd : ∀ σ' H', Pv n σ' H' → D.nx σ' H') : tFor wi g tu D σ H :=
  h _ fun H1 e => for_it wk Pv (h0 H1 e) hG hs hd
theorem q_forW {wi : TI} {J : It} {n : Nat} {G : Hp → Prop} {Y : Nat → Hp → V → Hp → Prop} (wk : Walk J n G Y) (h : ∀ R : It → Hp → Prop, (∀ H1, Ex H H1 → R J H1) → wi σ H R) (Pv : Nat → L2.St → Hp → Prop) (h0 : ∀ H1, Ex H H1 → Pv 0 σ H1)
    (hG : ∀ i σ H, i ≤ n → Pv i σ H → G H) (hs : ∀ i x σ' H1 H2, i < n → Pv i σ' H1 → Y i H1 x H2 → g x σ' H2 fun σ2 H3 => tu { D with nx := Pv (i + 1), ct := Pv (i + 1), bk := tz D } σ2 H3) (hd : ∀ σ' H', Pv n σ' H' → tz D σ' H') : tSeq (tFor wi g tu) tz D σ H :=
  s_forW (D := { D with nx := tz D }) wk h Pv h0 hG hs hd
/-- a pair into two names -/
theorem g_pair {i j : Nat} {T : Addr} {R : L2.St → Hp → Prop} (hT : H T = some (.tup [x, y])) (k : R ((σ.set i (some x)).set j (some y)) H) : gTup K 2 (gCons (gName i) (gCons (gName j) gNil)) (.ref T) σ H R :=
  ⟨T, [x, y], rfl, st_of hT, rfl, x, [y], rfl, y, [], rfl, rfl, k⟩
theorem sq_g_pair {i j : Nat} {T : Addr} {R : L2.St → Hp → Prop} (hT : SqT K H T [x, y]) (k : R ((σ.set i (some x)).set j (some y)) H) : gTup K 2 (gCons (gName i) (gCons (gName j) gNil)) (.ref T) σ H R :=
  ⟨T, [x, y], rfl, hT, rfl, x, [y], rfl, y, [], rfl, rfl, k⟩
/-- the turn of a loop over pairs -/
theorem y_pair {i j m : Nat} {f h : Nat → Option V} {R : L2.St → Hp → Prop} (hy : YPair f h m H v H') (k : ∀ x y, f m = some x → h m = some y → Ex H H' → R ((σ.set i (some x)).set j (some y)) H') : gTup K 2 (gCons (gName i) (gCons (gName j) gNil)) v σ H' R := by
  obtain ⟨T, x, y, rfl, hn, rfl, hx, hy⟩ := hy
  exact g_pair upd_same (k x y hx hy (Ex.new hn))
/-- enumerate of a tuple -/
theorem hwi_enumT {p : Addr} {xs : List V} (h : Ev te σ H (.ref p)) (hp : SqT K H p xs) (R : It → Hp → Prop) (k : ∀ H1, Ex H H1 → R (IteT K p) H1) : iEnumT K (tCons te tNil) σ H R :=
  h H (Ex.refl H) _ fun H2 e2 => ⟨p, xs, rfl, ex_t e2 hp, k H2 e2⟩
theorem hwi_tup {p : Addr} {xs : List V} (h : Ev te σ H (.ref p)) (hp : SqT K H p xs) (R : It → Hp → Prop) (k : ∀ H1, Ex H H1 → R (Itt K p) H1) : iTup K te σ H R :=
  h H (Ex.refl H) _ fun H2 e2 => ⟨p, rfl, ⟨xs, ex_t e2 hp⟩, k H2 e2⟩
theorem hwi_list {p : Addr} {xs : List V} (h : Ev te σ H (.ref p)) (hp : SqL K H p xs) (R : It → Hp → Prop) (k : ∀ H1, Ex H H1 → R (Itl K p) H1) : iList K te σ H R :=
  h H (Ex.refl H) _ fun H2 e2 => ⟨p, rfl, ⟨xs, ex_l e2 hp⟩, k H2 e2⟩
/-- written dicts -/
theorem rv_inKD {α : Type} {d : Addr} {tab : List (Str × α)} {R : α → Value → Prop} {w : Str} (D : KD K d tab R) :
    RV (fun x y H Q => ∃ (z : Str) (r : Option Value), x = .str z ∧ y = .ref d ∧ PySem.W.nsIn K d z = some r ∧ Q (.bl r.isSome) H) (.str w) (.ref d) H (.bl (tab.lookup w).isSome) := fun H1 _ Q q => by
  obtain ⟨r, e, h⟩ := D w
  refine ⟨w, r, rfl, rfl, e, ?_⟩
  have hr : r.isSome = (tab.lookup w).isSome := by
    cases hl : tab.lookup w with
    | none => rw [hl] at h; rw [show r = none from h]; rfl
    | some y =>
      rw [hl] at h
      obtain ⟨u, e, _⟩ := h
      rw [e]; rfl
  rw [hr]
  exact q H1 (Ex.refl _)
theorem rv_ninKD {α : Type} {d : Addr} {tab : List (Str × α)} {R : α → Value → Prop} {w : Str} (D : KD K d tab R) :
    RV (fun x y H Q => ∃ (z : Str) (r : Option Value), x = .str z ∧ y = .ref d ∧ PySem.W.nsIn K d z = some r ∧ Q (.bl (!r.isSome)) H) (.str w) (.ref d) H (.bl (!(tab.lookup w).isSome)) := fun H1 _ Q q => by
  obtain ⟨r, e, h⟩ := D w
  refine ⟨w, r, rfl, rfl, e, ?_⟩
  have hr : r.isSome = (tab.lookup w).isSome := by
    cases hl : tab.lookup w with
    | none => rw [hl] at h; rw [show r = none from h]; rfl
    | some y =>
      rw [hl] at h
      obtain ⟨u, e, _⟩ := h
      rw [e]; rfl
  rw [hr]
  exact q H1 (Ex.refl _)
theorem kd_at {α : Type} {d : Addr} {tab : List (Str × α)} {R : α → Value → Prop} {k : Str} {a : α} (D : KD K d tab R) (h : tab.lookup k = some a) : ∃ u, PySem.W.nsIn K d k = some (some u) ∧ R a u := by
  obtain ⟨r, e, hr⟩ := D k
  rw [h] at hr
  obtain ⟨u, er, ru⟩ := hr
  subst er
  exact ⟨u, e, ru⟩
theorem rv_ixU {w : World} {d : Addr} {k : Str} {u : Value} (kd : ∃ es n, KDict K w d es n) (e : PySem.W.nsIn K d k = some (some u)) (hv : RelV v u) : RV (rIxD K w) (.ref d) (.str k) H v := fun H1 _ Q q => by
  obtain ⟨es, n, kd⟩ := kd
  exact ⟨d, k, v, rfl, rfl, ⟨es, n, u, kd.at_, kd.lit, e, hv⟩, q H1 (Ex.refl _)⟩
theorem rv_ixKD {α : Type} {w : World} {d : Addr} {tab : List (Str × α)} {R : α → Value → Prop} {k : Str} {a : α} (D : KD K d tab R) (kd : ∃ es n, KDict K w d es n) (h : tab.lookup k = some a) (hv : ∀ u, R a u → RelV v u) :
    RV (rIxD K w) (.ref d) (.str k) H v := fun H1 _ Q q => by
  obtain ⟨es, n, kd⟩ := kd
  obtain ⟨r, e, hr⟩ := D k
  rw [h] at hr
  obtain ⟨u, er, ru⟩ := hr
  subst er
  exact ⟨d, k, v, rfl, rfl, ⟨es, n, u, kd.at_, kd.lit, e, hv u ru⟩, q H1 (Ex.refl _)⟩
end
section
variable {X : Cx} {d : Addr}
theorem op_inKD (D : ∃ es n, KDict X.K X.w d es n) : OpR X (compareOp .In) (fun x y H Q => ∃ (z : Str) (r : Option Value), x = .str z ∧ y = .ref d ∧ PySem.W.nsIn X.K d z = some r ∧ Q (.bl r.isSome) H) := by
  obtain ⟨_, _, D⟩ := D
  exact op_in_kd D
theorem op_ninKD (D : ∃ es n, KDict X.K X.w d es n) : OpR X (compareOp .NotIn) (fun x y H Q => ∃ (z : Str) (r : Option Value), x = .str z ∧ y = .ref d ∧ PySem.W.nsIn X.K d z = some r ∧ Q (.bl (!r.isSome)) H) := by
  obtain ⟨_, _, D⟩ := D
  exact op_notIn_kd D
end
/-- a local that holds one of several defs, their defaults with them -/
structure HeldD (P : Program) (w : World) (K : PySem.W.Frag) (mg : Str → Option Value) (base : Heap) (k : Nat) (f : Addr) (sp' : Sp) : Prop where
  ex : ∃ (fd : FuncData) (ps : List Str) (sp : Sp) (dvs : List V) (ds : List Value), FnOk P w K mg base CX0 k f fd ps sp ∧ PySem.W.keepIn K (.ref f) = true ∧ Binds K fd ps ds ∧ Vals dvs ds ∧ sp' = fun vs H Q E => sp (vs ++ dvs) H Q E
section
variable {X : Cx} {k i : Nat} {x : Str} {p pos : Pos} {e : Expr} {es : List Expr} {t : TA}
theorem pe_callD {S : Addr → Option Sp} (A : ∀ f sp, S f = some sp → HeldD X.prog X.w X.K X.mg X.base k f sp) (hr : Room k X.A) (hN : X.N[i]? = some x) (hv : Vis X.env.scope x) (ha : PA X (e :: es) t)
    (hdb : (x == ("__debug__" : Str)) = false := by decide) (hcd : (x == ("__classdict__" : Str)) = false := by decide)
    (he : starEach (e :: es) X.env = (false, eval e X.env) :: starEach es X.env := by rfl) (hpl : (backTo pos (starEach es X.env)).any (·.1) = false := by rfl) : PE X (.Call (.Name x p) (e :: es) [] pos) (tCallA i S t) := by
  refine ⟨fun pins s σ H Q I h => ?_⟩
  obtain ⟨f, sp', hs, hS, ht⟩ := h
  obtain ⟨fd, ps, sp, dvs, ds, F, hk, hb, hd, rfl⟩ := (A f sp' hS).ex
  exact (pe_callL (i := i) (f := f) (sp := sp) (dvs := dvs) (E := fun _ _ _ => False) F hr hN hv hk hb hd pass0 ha hdb hcd he hpl).run pins s σ H Q I ⟨hs, ht⟩
end
/-- the same, the promise brought by the value -/
def tCallH (P : Program) (w : World) (K : PySem.W.Frag) (mg : Str → Option Value) (base : Heap) (k i : Nat) (t : TA) : TE := fun σ H Q => ∃ f sp, σ[i]? = some (some (.ref f)) ∧ HeldD P w K mg base k f sp ∧ t σ H fun vs H1 => sp vs H1 Q (fun _ _ _ => False)
section
variable {X : Cx} {k i : Nat} {x : Str} {p pos : Pos} {e : Expr} {es : List Expr} {t : TA}
theorem pe_callH (hr : Room k X.A) (hN : X.N[i]? = some x) (hv : Vis X.env.scope x) (ha : PA X (e :: es) t)
    (hdb : (x == ("__debug__" : Str)) = false := by decide) (hcd : (x == ("__classdict__" : Str)) = false := by decide)
    (he : starEach (e :: es) X.env = (false, eval e X.env) :: starEach es X.env := by rfl) (hpl : (backTo pos (starEach es X.env)).any (·.1) = false := by rfl) : PE X (.Call (.Name x p) (e :: es) [] pos) (tCallH X.prog X.w X.K X.mg X.base k i t) := by
  refine ⟨fun pins s σ H Q I h => ?_⟩
  obtain ⟨f, sp', hs, hS, ht⟩ := h
  obtain ⟨fd, ps, sp, dvs, ds, F, hk, hb, hd, rfl⟩ := hS.ex
  exact (pe_callL (i := i) (f := f) (sp := sp) (dvs := dvs) (E := fun _ _ _ => False) F hr hN hv hk hb hd pass0 ha hdb hcd he hpl).run pins s σ H Q I ⟨hs, ht⟩
end
/-- a comprehension over pairs -/
theorem el_lcP {K : PySem.W.Frag} {σ : L2.St} {H : Hp} {t : TT} {te : TE} {wi : TI} {J : It} {n : Nat} {G : Hp → Prop} {f h : Nat → Option V} {i j : Nat} {vs : List Nat} (wk : Walk J n G (YPair f h)) (hn : n ≤ sizeLine) (b : Nat → Bool) (q : Nat → V)
    (hwi : ∀ H1, Ex H H1 → ∀ R : It → Hp → Prop, (∀ H2, Ex H1 H2 → R J H2) → wi σ H1 R) (hG : ∀ H1, Ex H H1 → G H1) (hw : ∀ x y, wipe (((wipe σ vs).set i (some x)).set j (some y)) vs = wipe σ vs)
    (ht : ∀ (m : Nat) (x y : V) H0, m < n → Ex H H0 → f m = some x → h m = some y → EvT t (((wipe σ vs).set i (some x)).set j (some y)) H0 (b m))
    (he : ∀ (m : Nat) (x y : V) H0, m < n → Ex H H0 → f m = some x → h m = some y → b m = true → Ev te (((wipe σ vs).set i (some x)).set j (some y)) H0 (q m)) :
    EvL (tLc wi (gTup K 2 (gCons (gName i) (gCons (gName j) gNil))) t te vs) σ H (giv n fun m => if b m = true then some (q m) else none) := fun H1 e Q k => hwi H1 e _ fun H2 e2 =>
  lcp wk (fun m => if b m = true then some (q m) else none) hn (fun H0 e0 => hG H0 ((e.trans e2).trans e0)) (fun m x H0 H' R S hi s0 y hR hS => by
    refine y_pair y fun u v hu hv e3 => ⟨hw u v, ?_⟩
    have e4 : Ex H H' := ((e.trans e2).trans s0).trans e3
    refine ht m u v H' hi e4 hu hv H' (Ex.refl _) _ fun H3 e5 => ?_
    cases hb : b m with
    | true =>
      rw [if_pos rfl]
      exact he m u v H' hi e4 hu hv hb H3 e5 _ fun H4 e6 => hR _ H4 (by rw [if_pos hb]) ((Ex.trans e3 e5).trans e6)
    | false =>
      rw [if_neg Bool.false_ne_true]
      exact hS (by rw [if_neg (by rw [hb]; exact Bool.false_ne_true)]) H3 (Ex.trans e3 e5)) fun D H3 hD s3 h3 => k D H3 (fresh_back e2 hD) (Ex.trans e2 s3) h3
/-! ### tuples: one that holds xs -/
def EvS (K : PySem.W.Frag) (te : TE) (σ : L2.St) (H : Hp) (xs : List V) : Prop := ∀ H1, Ex H H1 → ∀ Q : VK, (∀ p H2, Ex H1 H2 → SqT K H2 p xs → Q (.ref p) H2) → te σ H1 Q
def RetL (xs : List V) (H : Hp) (Q : VK) : Prop := ∀ p H', H p = none → Same H H' → H' p = some (.lst xs) → Q (.ref p) H'
def RetT (K : PySem.W.Frag) (xs : List V) (H : Hp) (Q : VK) : Prop := ∀ p H', Same H H' → SqT K H' p xs → Q (.ref p) H'
section
variable {K : PySem.W.Frag} {σ : L2.St} {H H' : Hp} {ta tb tc te tx : TE} {t u : TT} {x y z v : V} {D : Ends} {tu tw tz : TS} {g : TG}
theorem es_u {xs : List V} (h : EvU te σ H xs) : EvS K te σ H xs := fun H1 e Q q => h H1 e Q fun p H2 _ e2 hp => q p H2 e2 (st_of hp)
theorem es_ev {p : Addr} {xs : List V} (h : Ev te σ H (.ref p)) (hp : SqT K H p xs) : EvS K te σ H xs := fun H1 e Q q => h H1 e Q fun H2 e2 => q p H2 e2 (ex_t (e.trans e2) hp)
theorem es_is {xs ys : List V} (h : EvS K te σ H xs) (e : xs = ys) : EvS K te σ H ys := e ▸ h
theorem EvS.mono {xs : List V} (e : Ex H H') (h : EvS K te σ H xs) : EvS K te σ H' xs := fun H1 a Q q => h H1 (e.trans a) Q q
theorem s_appS {l : Addr} {xs ys : List V} (hl : H l = some (.lst xs)) (ha : Ev ta σ H (.ref l)) (h : EvS K te σ H ys) (hz : xs.length < sizeLine) (k : ∀ p H1, Ex H H1 → SqT K H1 p ys → D.nx σ (upd H1 l (.lst (xs ++ [.ref p])))) :
    tDrop (tBM K "list" rAppend ta (tCons te tNil)) D σ H := ha H (Ex.refl H) _ fun H1 e1 =>
  ⟨Or.inl ⟨rfl, xs, sq_of (e1 l _ hl)⟩, h H1 e1 _ fun p H2 e2 hp => ⟨l, xs, .ref p, rfl, rfl, e2 l _ (e1 l _ hl), hz, k p H2 (e1.trans e2) hp⟩⟩
theorem s_appV {l : Addr} {xs : List V} (hl : H l = some (.lst xs)) (ha : Ev ta σ H (.ref l)) (h : Ev te σ H v) (hz : xs.length < sizeLine) (k : ∀ H1, Ex H H1 → D.nx σ (upd H1 l (.lst (xs ++ [v])))) :
    tDrop (tBM K "list" rAppend ta (tCons te tNil)) D σ H := ha H (Ex.refl H) _ fun H1 e1 =>
  ⟨Or.inl ⟨rfl, xs, sq_of (e1 l _ hl)⟩, h H1 e1 _ fun H2 e2 => ⟨l, xs, v, rfl, rfl, e2 l _ (e1 l _ hl), hz, k H2 (e1.trans e2)⟩⟩
theorem s_asgG (h : Ev te σ H v) (k : ∀ H1, Ex H H1 → g v σ H1 D.nx) : tAsg te g D σ H := h H (Ex.refl H) _ k
theorem q_asgG (h : Ev te σ H v) (k : ∀ H1, Ex H H1 → g v σ H1 (tz D)) : tSeq (tAsg te g) tz D σ H := h H (Ex.refl H) _ k
theorem q_asgS {i : Nat} {xs : List V} (h : EvS K te σ H xs) (k : ∀ p H1, Ex H H1 → SqT K H1 p xs → tz D (σ.set i (some (.ref p))) H1) : tSeq (tAsg te (gName i)) tz D σ H := h H (Ex.refl H) _ k
theorem s_retS {xs : List V} (h : EvS K te σ H xs) (k : ∀ p H1, Ex H H1 → SqT K H1 p xs → D.rt (.ref p) H1) : tRet te D σ H := h H (Ex.refl H) _ k
/-- calls that give a list, a tuple -/
theorem ev_callL {sp : Sp} {vs xs : List V} {E : XK} {t : TA} (h : EvA t σ H vs) (hs : ∀ H1, Ex H H1 → ∀ Q : VK, RetL xs H1 Q → sp vs H1 Q E) : EvL (tCall sp [] E t) σ H xs := fun H1 e Q q =>
  h H1 e _ fun H2 e2 => by
    rw [List.append_nil]
    exact hs H2 (e.trans e2) Q fun p H3 hp e3 h3 => q p H3 (fresh_back e2 hp) (Ex.trans e2 e3) h3
theorem es_call {sp : Sp} {vs xs : List V} {E : XK} {t : TA} (h : EvA t σ H vs) (hs : ∀ H1, Ex H H1 → ∀ Q : VK, RetT K xs H1 Q → sp vs H1 Q E) : EvS K (tCall sp [] E t) σ H xs := fun H1 e Q q =>
  h H1 e _ fun H2 e2 => by
    rw [List.append_nil]
    exact hs H2 (e.trans e2) Q fun p H3 e3 h3 => q p H3 (Ex.trans e2 e3) h3
def rTupOf (K : PySem.W.Frag) : List V → Hp → VK → Prop := fun xs H Q => ∃ p ys, xs = [.ref p] ∧ ((SqL K H p ys ∧ ∀ l, H l = none → Q (.ref l) (upd H l (.tup ys))) ∨ (SqT K H p ys ∧ Q (.ref p) H))
/-- tuple(a new list), tuple(a list), tuple(a tuple) -/
theorem es_tupN {xs : List V} (h : EvL te σ H xs) : EvS K (tCB (rTupOf K) (tCons te tNil)) σ H xs := fun H1 e Q q =>
  h H1 e _ fun p H2 _ e2 hp => ⟨p, xs, rfl, .inl ⟨sq_of hp, fun l hl => q l _ (e2.trans (Ex.new hl)) (st_of upd_same)⟩⟩
theorem es_tupL {p : Addr} {xs : List V} (h : Ev te σ H (.ref p)) (hp : SqL K H p xs) : EvS K (tCB (rTupOf K) (tCons te tNil)) σ H xs := fun H1 e Q q =>
  h H1 e _ fun H2 e2 => ⟨p, xs, rfl, .inl ⟨ex_l (e.trans e2) hp, fun l hl => q l _ (e2.trans (Ex.new hl)) (st_of upd_same)⟩⟩
theorem es_tupS {xs : List V} (h : EvS K te σ H xs) : EvS K (tCB (rTupOf K) (tCons te tNil)) σ H xs := fun H1 e Q q =>
  h H1 e _ fun p H2 e2 hp => ⟨p, xs, rfl, .inr ⟨hp, q p H2 e2 hp⟩⟩
/-- t[lo:hi] -/
theorem es_sl {tl' th : TO} {p : Addr} {xs : List V} {lo hi : Option Int} (h : Ev te σ H (.ref p)) (h1 : EvO tl' σ H lo) (h2 : EvO th σ H hi) (hs : SqT K H p xs) : EvS K (tSl (rSlA K) te tl' th) σ H (cutV xs lo hi) := fun H1 e _ q =>
  h H1 e _ fun H2 e2 => h1 H2 (e.trans e2) _ fun H3 e3 => h2 H3 ((e.trans e2).trans e3) _ fun H4 e4 =>
    ⟨p, xs, rfl, ex_t (((e.trans e2).trans e3).trans e4) hs, fun hw => by
      have e0 : cutV xs lo hi = xs := by
        unfold cutV
        rw [hw.1, hw.2]
        simp
      exact q p H4 ((e2.trans e3).trans e4) (by rw [e0]; exact ex_t (((e.trans e2).trans e3).trans e4) hs), fun _ p' hp => q p' _ (((e2.trans e3).trans e4).trans (Ex.new hp)) (st_of upd_same)⟩
/-- t + u, tuples -/
theorem es_cat {xs ys : List V} (h : EvS K ta σ H xs) (h2 : EvS K tb σ H ys) (hz : xs.length + ys.length ≤ sizeLine) : EvS K (tOp (rCatA K) ta tb) σ H (xs ++ ys) := fun H1 e Q q =>
  h H1 e _ fun p H2 e2 hp => h2 H2 (e.trans e2) _ fun p2 H3 e3 hp2 => ⟨p, p2, xs, ys, rfl, rfl, ex_t e3 hp, hp2, hz, fun h => by
      subst h
      exact q p2 H3 (e2.trans e3) hp2, fun _ h => by
      subst h
      exact q p H3 (e2.trans e3) (by rw [List.append_nil]; exact ex_t e3 hp), fun _ _ l hl => q l _ ((e2.trans e3).trans (Ex.new hl)) (st_of upd_same)⟩
/-- x.split(sep) -/
theorem el_split {a b : Str} (h : Ev ta σ H (.str a)) (h2 : Ev tb σ H (.str b)) (hb : (b.length == 0) = false) (hl : a.length ≤ 1000000) :
    EvL (tM1 (fun x xs H Q => ∃ a b, x = .str a ∧ xs = [.str b] ∧ (b.length == 0) = false ∧ a.length + 2 ≤ sizeLine ∧ rNewStrs (Txt.split a b) H Q) ta tb) σ H ((Txt.split a b).map V.str) := fun H1 e Q q =>
  h H1 e _ fun H2 e2 => ⟨⟨a, rfl⟩, h2 H2 (e.trans e2) _ fun H3 e3 => ⟨a, b, rfl, rfl, hb, Nat.le_trans (Nat.add_le_add_right hl 2) (by decide), fun p hp => q p _ (fresh_back (e2.trans e3) hp) ((e2.trans e3).trans (Ex.new hp)) upd_same⟩⟩
/-- sep.join(a new list) -/
theorem ev_joinN {a : Str} {ys : List Str} (h : Ev ta σ H (.str a)) (h2 : EvL tb σ H (ys.map V.str)) (hz : (ys.map (·.length)).sum + ys.length * a.length ≤ 16777216) :
    Ev (tM1 (fun x xs H Q => ∃ a p, ∃ ys : List Str, x = .str a ∧ xs = [.ref p] ∧ (SqL K H p (ys.map V.str) ∨ SqT K H p (ys.map V.str)) ∧ (ys.map (·.length)).sum + ys.length * a.length ≤ 16777216 ∧ Q (.str (Txt.join a ys)) H) ta tb) σ H (.str (Txt.join a ys)) := fun H1 e Q q =>
  h H1 e _ fun H2 e2 => ⟨⟨a, rfl⟩, h2 H2 (e.trans e2) _ fun p H3 _ e3 hp => ⟨a, p, ys, rfl, rfl, .inl (sq_of hp), hz, q H3 (e2.trans e3)⟩⟩
/-- over a new list -/
theorem el_lcN {xs : List V} {j : Nat} {vs : List Nat} (b : V → Bool) (q : V → V) (h : EvL tx σ H xs) (hn : xs.length ≤ sizeLine) (hw : ∀ x, wipe ((wipe σ vs).set j (some x)) vs = wipe σ vs)
    (ht : ∀ (x : V) H0, x ∈ xs → Ex H H0 → EvT t ((wipe σ vs).set j (some x)) H0 (b x)) (he : ∀ (x : V) H0, x ∈ xs → Ex H H0 → b x = true → Ev te ((wipe σ vs).set j (some x)) H0 (q x)) :
    EvL (tLc (iList K tx) (gName j) t te vs) σ H ((xs.filter b).map q) := fun H1 e Q k =>
  h H1 e _ fun p H2 hp0 e2 hp => ⟨p, rfl, ⟨xs, sq_of hp⟩, fun D hD => by
    have := el_lst (K := K) (tx := tC (.ref p)) (σ := σ) (H := H2) b q ev_c (sq_of hp) hn hw (fun x H0 hx e0 => ht x H0 hx ((e.trans e2).trans e0)) (fun x H0 hx e0 => he x H0 hx ((e.trans e2).trans e0)) H2 (Ex.refl _) Q fun p' H3 hp' e3 h3 => k p' H3 (fresh_back e2 hp') (e2.trans e3) h3
    obtain ⟨_, e1, _, hh⟩ := this
    cases e1
    exact hh D hD⟩
end
end Pk
set_option Elab.async false
set_option linter.all false
set_option maxRecDepth 100000
set_option maxHeartbeats 4000000
namespace Pk
open PySem PySem.Spec PyProof.Rows L2 Evl
section
variable {P : Program} {w : World} {K : PySem.W.Frag} {mg : Str → Option Value} {base : Heap}
/-! ### kinds of single values -/
-- slots: 0 thing
theorem SC_is_whole : FnScope ["thing"] ["thing"] (defScope (top 15)) := ⟨rfl, rfl, rfl, by decide +kernel, rfl, by decide +kernel, by decide +kernel⟩
def sp_is_whole (K : PySem.W.Frag) : Sp := fun vs H Q _ => ∃ (v : V) (t : String), vs = [v] ∧ VT K H v t ∧ RetV (.bl (t == "int")) H Q
theorem cl_is_whole (T : Txt w K mg) : Cl P w K mg base CX0 1 "is_whole" (sp_is_whole K) := by
  obtain ⟨fd, F, hm⟩ := T.df 0 "is_whole" 15 rfl
  refine cl0 F hm SC_is_whole (fun vs H Q E h => by obtain ⟨v, t, rfl, ty, k⟩ := h; rfl) (fun _ _ _ _ _ _ us hl => match us, hl with | [_], _ => rfl) fun cdv A outer s H vs Q E hr h => ?_
  obtain ⟨v, t, rfl, ty, k⟩ := h
  refine ⟨_, (pss_one (ps_ret (pe_and (pe_callB call_is rfl T.f_isinstance boot_isinstance (pa_cons (pv 0) (pa_cons (pe_ty rfl T.f_int boot_int) pa_nil))) (pe_one (pe_not (pe_callB call_is rfl T.f_isinstance boot_isinstance (pa_cons (pv 0) (pa_cons (pe_ty rfl T.f_bool boot_bool) pa_nil)))))))), ?_⟩
  refine ⟨_, rfl, _, t, _, rfl, ty, rfl, _, rfl, ?_⟩
  cases ty
  case int i => exact ⟨_, rfl, _, _, _, rfl, .int i, rfl, _, rfl, k.go⟩
  case bl b => exact ⟨_, rfl, _, _, _, rfl, .bl b, rfl, _, rfl, k.go⟩
  all_goals exact k.go
def inN (lo hi : Int) : V → Bool
  | .int i => decide (lo ≤ i) && decide (i ≤ hi)
  | _ => false
-- slots: 0 thing, 1 low, 2 high
theorem SC_is_within : FnScope ["thing", "low", "high"] ["thing", "low", "high"] (defScope (top 16)) := ⟨rfl, rfl, rfl, by decide +kernel, rfl, by decide +kernel, by decide +kernel⟩
def sp_is_within (K : PySem.W.Frag) : Sp := fun vs H Q _ => ∃ (v : V) (t : String) (lo hi : Int), vs = [v, .int lo, .int hi] ∧ VT K H v t ∧ RetV (.bl (inN lo hi v)) H Q
theorem cl_is_within (T : Txt w K mg) : Cl P w K mg base CX0 2 "is_within" (sp_is_within K) := by
  obtain ⟨fd, F, hm⟩ := T.df 1 "is_within" 16 rfl
  refine cl0 F hm SC_is_within (fun vs H Q E h => by obtain ⟨v, t, lo, hi, rfl, ty, k⟩ := h; rfl) (fun _ _ _ _ _ _ us hl => match us, hl with | [_, _, _], _ => rfl) fun cdv A outer s H vs Q E hr h => ?_
  obtain ⟨v, t, lo, hi, rfl, ty, k⟩ := h
  refine ⟨_, (pss_one (ps_ret (pe_and (pc (cl_is_whole T) hr (by decide) rfl (pa_cons (pv 0) pa_nil)) (pe_one (pe_chain op_le op_le (pv 1) (pv 0) (pv 2)))))), ?_⟩
  refine ⟨_, rfl, v, t, rfl, ty, fun H1 s1 => ⟨_, rfl, ?_⟩⟩
  cases ty
  case int i =>
    refine ⟨_, rfl, _, rfl, _, _, rfl, rfl, _, rfl, ?_⟩
    refine ifb (fun h => ⟨_, rfl, _, _, rfl, rfl, ?_⟩) (fun h => ?_)
    · have e : inN lo hi (.int i) = decide (i ≤ hi) := by show (decide (lo ≤ i) && decide (i ≤ hi)) = _; rw [h]; rfl
      rw [e] at k
      exact k H1 s1
    · have e : inN lo hi (.int i) = false := by show (decide (lo ≤ i) && decide (i ≤ hi)) = _; rw [h]; rfl
      rw [e] at k
      exact k H1 s1
  all_goals exact k H1 s1
/-- a text is not too long -/
def GV (v : V) : Prop := ∀ z, v = .str z → z.length ≤ 1000000
def onV (f : Str → Bool) : V → Bool
  | .str z => f z
  | _ => false
theorem all_bl (l : List Nat) (p : Nat → Bool) : (l.map p).all id = l.all p := by
  induction l with
  | nil => rfl
  | cons a l ih => simp
theorem bnt {b : Bool} (h : (!b) = true) : b = false := by cases b <;> first | rfl | cases h
theorem bnf {b : Bool} (h : (!b) = false) : b = true := by cases b <;> first | rfl | cases h
theorem dec_nat (a b : Nat) : decide ((a : Int) ≤ (b : Int)) = decide (a ≤ b) := by
  by_cases h : a ≤ b
  · rw [decide_eq_true h]; exact decide_eq_true (by omega)
  · rw [decide_eq_false h]; exact decide_eq_false (by omega)
/-- the test of is_name and is_word -/
theorem et_len {K : PySem.W.Frag} {σ : L2.St} {H : Hp} {z : Str} {m : Nat} {tm : TE} (h0 : σ[0]? = some (some (.str z))) (hz : z.length ≤ 1000000) (hm : Ev tm σ H (.int (m : Int))) :
    EvT (tOr (tNot (tB (tCB (rIs K) (tCons (tVar 0) (tCons (tC (.ty "str")) tNil))))) (tNot (tTest (tChain (rI0 fun i j => .bl (decide (i ≤ j))) (rI0 fun i j => .bl (decide (i ≤ j))) (tC (.int 1))
      (tCB (fun xs H Q => ∃ z, xs = [.str z] ∧ z.length ≤ sizeLine ∧ Q (.int z.length) H) (tCons (tVar 0) tNil)) tm)))) σ H (!(decide (1 ≤ z.length) && decide (z.length ≤ m))) := by
  refine et_is (et_or (et_not (et_B (ev_isi (ev_var h0) (.str z) rfl))) fun _ => et_not (et_test (ev_chain ev_c (ev_cb (ea1 (ev_var h0)) (rc_lenS hz)) hm))) ?_
  have e := dec_nat 1 z.length
  rw [dec_nat z.length m]
  show (!true || !(decide ((1 : Int) ≤ (z.length : Int)) && _)) = _
  rw [show decide ((1 : Int) ≤ (z.length : Int)) = decide (1 ≤ z.length) from e]
  rfl
-- slots: 0 thing, 1 sign
theorem SC_is_name : FnScope ["thing", "sign"] ["thing"] (defScope (top 17)) := ⟨rfl, rfl, rfl, by decide +kernel, rfl, by decide +kernel, by decide +kernel⟩
def sp_is_name (K : PySem.W.Frag) : Sp := fun vs H Q _ => ∃ (v : V) (t : String), vs = [v] ∧ VT K H v t ∧ GV v ∧ RetV (.bl (onV nameM v)) H Q
theorem cl_is_name (T : Txt w K mg) : Cl P w K mg base CX0 1 "is_name" (sp_is_name K) := by
  obtain ⟨fd, F, hm⟩ := T.df 2 "is_name" 17 rfl
  refine cl0 F hm SC_is_name (fun vs H Q E h => by obtain ⟨v, t, rfl, ty, hv, k⟩ := h; rfl) (fun _ _ _ _ _ _ us hl => match us, hl with | [_], _ => rfl) fun cdv A outer s H vs Q E hr h => ?_
  obtain ⟨v, t, rfl, ty, hv, k⟩ := h
  refine ⟨_, (pss_cons (ps_if (PW.pt (pw_or (pt_not (pt_val (pe_callB call_is rfl T.f_isinstance boot_isinstance (pa_cons (pv 0) (pa_cons (pe_ty rfl T.f_str boot_str) pa_nil))))) (pw_or1 (pt_not (pt_chain op_le op_le pe_int (pe_callB call_len_str rfl T.f_len boot_len (pa_cons (pv 0) pa_nil)) (C8.pe_gc rfl T.g_MOST_NAME)))))) (pss_one (ps_ret pe_bl)) pss_nil)
      (pss_one (ps_ret (pe_callB (cr_all rfl) rfl T.f_all boot_all (pa_cons (pe_lc (own := [("sign", 1)]) (g := gName 1) (tt := tYes) rfl SC_is_name.nd (pi_str (pv 0)) (blkOk_by (own := [("sign", 1)]) (N := ["thing", "sign"]) (sc := defScope (top 17)) (by decide +kernel)) (fun _ _ _ _ _ => (pg_name (i := 1) SC_is_name.nd rfl (Or.inl rfl))) (fun _ _ _ _ _ => pts_nil) (fun _ _ _ _ _ => (pe_cmpR op_in_sign (pv 1) (C8.pe_gc rfl T.g_SMALL) rfl))) pa_nil))))), ?_⟩
  have ty0 := ty
  cases ty
  case str z =>
    refine q_when (et_len rfl (hv z rfl) (m := 8) ev_c) (fun h H1 e1 => s_ret ev_c fun H2 e2 => ?_) (fun h H1 e1 => s_ret (ev_all (bs := z.cps.toList.map fun c => decide (c ∈ sSmall.cps.toList)) (el_is (el_str (fun c => .bl (decide (c ∈ sSmall.cps.toList))) (ev_var rfl) (hv z rfl) (fun _ => rfl)
      fun c H0 _ e0 => ev_op (ev_var rfl) ev_c rv_sign) (by rw [List.map_map]; rfl))) fun H2 e2 => ?_)
    · have e : nameM z = false := by
        unfold nameM
        have h2 : (decide (1 ≤ z.length) && decide (z.length ≤ 8)) = false := bnt h
        rw [h2]; rfl
      have := k H2 (Ex.trans e1 e2)
      rwa [show onV nameM (.str z) = false from e] at this
    · have e : nameM z = (z.cps.toList.map fun c => decide (c ∈ sSmall.cps.toList)).all id := by
        unfold nameM
        have h2 : (decide (1 ≤ z.length) && decide (z.length ≤ 8)) = true := bnf h
        rw [h2, all_bl]; rfl
      have := k H2 (Ex.trans e1 e2)
      rwa [show onV nameM (.str z) = _ from e] at this
  all_goals exact q_when (et_noT rfl ty0 rfl rfl) (fun _ H1 e1 => s_ret ev_c fun H2 e2 => k H2 (Ex.trans e1 e2)) (fun h => absurd h (by decide))
-- slots: 0 thing, 1 sign
theorem SC_is_word : FnScope ["thing", "sign"] ["thing"] (defScope (top 18)) := ⟨rfl, rfl, rfl, by decide +kernel, rfl, by decide +kernel, by decide +kernel⟩
def sp_is_word (K : PySem.W.Frag) : Sp := fun vs H Q _ => ∃ (v : V) (t : String), vs = [v] ∧ VT K H v t ∧ GV v ∧ RetV (.bl (onV wordM v)) H Q
theorem cl_is_word (T : Txt w K mg) : Cl P w K mg base CX0 1 "is_word" (sp_is_word K) := by
  obtain ⟨fd, F, hm⟩ := T.df 3 "is_word" 18 rfl
  refine cl0 F hm SC_is_word (fun vs H Q E h => by obtain ⟨v, t, rfl, ty, hv, k⟩ := h; rfl) (fun _ _ _ _ _ _ us hl => match us, hl with | [_], _ => rfl) fun cdv A outer s H vs Q E hr h => ?_
  obtain ⟨v, t, rfl, ty, hv, k⟩ := h
  refine ⟨_, (pss_cons (ps_if (PW.pt (pw_or (pt_not (pt_val (pe_callB call_is rfl T.f_isinstance boot_isinstance (pa_cons (pv 0) (pa_cons (pe_ty rfl T.f_str boot_str) pa_nil))))) (pw_or1 (pt_not (pt_chain op_le op_le pe_int (pe_callB call_len_str rfl T.f_len boot_len (pa_cons (pv 0) pa_nil)) (C8.pe_gc rfl T.g_MOST_WORD)))))) (pss_one (ps_ret pe_bl)) pss_nil)
      (pss_one (ps_ret (pe_callB (cr_all rfl) rfl T.f_all boot_all (pa_cons (pe_lc (own := [("sign", 1)]) (g := gName 1) (tt := tYes) rfl SC_is_word.nd (pi_str (pv 0)) (blkOk_by (own := [("sign", 1)]) (N := ["thing", "sign"]) (sc := defScope (top 18)) (by decide +kernel)) (fun _ _ _ _ _ => (pg_name (i := 1) SC_is_word.nd rfl (Or.inl rfl))) (fun _ _ _ _ _ => pts_nil) (fun _ _ _ _ _ => (pe_cmpR op_in_sign (pv 1) (C8.pe_gc rfl T.g_SIGNS) rfl))) pa_nil))))), ?_⟩
  have ty0 := ty
  cases ty
  case str z =>
    refine q_when (et_len rfl (hv z rfl) (m := 12) ev_c) (fun h H1 e1 => s_ret ev_c fun H2 e2 => ?_) (fun h H1 e1 => s_ret (ev_all (bs := z.cps.toList.map fun c => decide (c ∈ sSigns.cps.toList)) (el_is (el_str (fun c => .bl (decide (c ∈ sSigns.cps.toList))) (ev_var rfl) (hv z rfl) (fun _ => rfl)
      fun c H0 _ e0 => ev_op (ev_var rfl) ev_c rv_sign) (by rw [List.map_map]; rfl))) fun H2 e2 => ?_)
    · have e : wordM z = false := by
        unfold wordM
        have h2 : (decide (1 ≤ z.length) && decide (z.length ≤ 12)) = false := bnt h
        rw [h2]; rfl
      have := k H2 (Ex.trans e1 e2)
      rwa [show onV wordM (.str z) = false from e] at this
    · have e : wordM z = (z.cps.toList.map fun c => decide (c ∈ sSigns.cps.toList)).all id := by
        unfold wordM
        have h2 : (decide (1 ≤ z.length) && decide (z.length ≤ 12)) = true := bnf h
        rw [h2, all_bl]; rfl
      have := k H2 (Ex.trans e1 e2)
      rwa [show onV wordM (.str z) = _ from e] at this
  all_goals exact q_when (et_noT rfl ty0 rfl rfl) (fun _ H1 e1 => s_ret ev_c fun H2 e2 => k H2 (Ex.trans e1 e2)) (fun h => absurd h (by decide))
theorem str_nil {z : Str} : z = ("" : Str) ↔ z.length = 0 := by
  constructor
  · intro h; rw [h]; decide +kernel
  · intro h
    refine ext_l ?_
    have h2 : z.cps.toList.length = 0 := by rw [len_l]; exact h
    rw [List.length_eq_zero_iff.mp h2]
    decide +kernel
theorem hd_at {z : Str} (h : z.length ≠ 0) : atI z.cps.toList 0 = some (hd z) := by
  have h2 : z.cps.toList.length ≠ 0 := by rw [len_l]; exact h
  unfold hd
  cases e : z.cps.toList with
  | nil => rw [e] at h2; exact absurd rfl h2
  | cons a l =>
    show (ixN (a :: l).length 0).bind (fun j => (a :: l)[j]?) = _
    have e2 : ixN (a :: l).length 0 = some 0 := by
      unfold ixN
      rw [if_pos (by decide), if_pos (by simp only [List.length_cons]; omega)]
      rfl
    rw [e2]
    rfl
theorem cut_tl (z : Str) : cutS z (some 1) none = tl z := by
  unfold cutS tl
  refine congrArg Str.mk (congrArg List.toArray ?_)
  have h1 : HT.sIx z.length 0 (some 1) = min 1 z.length := HT.sIx_nat z.length 0 1
  have h2 : HT.sIx z.length z.length none = z.length := rfl
  rw [h1, h2]
  have e : z.length = z.cps.toList.length := (len_l z).symm
  rw [e]
  cases z.cps.toList with
  | nil => rfl
  | cons a l =>
    have : min 1 (a :: l).length = 1 := by simp only [List.length_cons]; omega
    rw [this]
    simp
theorem tl_len (z : Str) : (tl z).length ≤ z.length := by
  unfold tl Str.length
  simp
-- slots: 0 thing
theorem SC_is_token : FnScope ["thing"] ["thing"] (defScope (top 19)) := ⟨rfl, rfl, rfl, by decide +kernel, rfl, by decide +kernel, by decide +kernel⟩
def sp_is_token (K : PySem.W.Frag) : Sp := fun vs H Q _ => ∃ (v : V) (t : String), vs = [v] ∧ VT K H v t ∧ GV v ∧ RetV (.bl (onV tokenM v)) H Q
theorem cl_is_token (T : Txt w K mg) : Cl P w K mg base CX0 2 "is_token" (sp_is_token K) := by
  obtain ⟨fd, F, hm⟩ := T.df 4 "is_token" 19 rfl
  refine cl0 F hm SC_is_token (fun vs H Q E h => by obtain ⟨v, t, rfl, ty, hv, k⟩ := h; rfl) (fun _ _ _ _ _ _ us hl => match us, hl with | [_], _ => rfl) fun cdv A outer s H vs Q E hr h => ?_
  obtain ⟨v, t, rfl, ty, hv, k⟩ := h
  refine ⟨_, (pss_cons (ps_if (PW.pt (pw_or (pt_not (pt_val (pe_callB call_is rfl T.f_isinstance boot_isinstance (pa_cons (pv 0) (pa_cons (pe_ty rfl T.f_str boot_str) pa_nil))))) (pw_or1 (pt_cmpR op_eq (pv 0) pe_str (nomark _))))) (pss_one (ps_ret pe_bl)) pss_nil)
      (pss_cons (ps_if (pt_cmpR op_in_sign (pe_ix ix_str (pv 0) pe_int (fun _ _ => rfl)) pe_str rfl) (pss_one (ps_ret (pc (cl_is_name T) hr (by decide) rfl (pa_cons (pe_slice sl_str (pv 0) (po_some pe_int) po_none) pa_nil)))) pss_nil)
      (pss_cons (ps_if (pt_cmpR op_eq (pe_ix ix_str (pv 0) pe_int (fun _ _ => rfl)) pe_str (nomark _)) (pss_one (ps_ret (pc (cl_is_word T) hr (by decide) rfl (pa_cons (pe_slice sl_str (pv 0) (po_some pe_int) po_none) pa_nil)))) pss_nil)
      (pss_one (ps_ret (pe_or (pe_cmpR op_in_seq (pv 0) (C8.pe_gc rfl T.g_BRACKETS) (by rfl)) (pe_one (pc (cl_is_word T) hr (by decide) rfl (pa_cons (pv 0) pa_nil))))))))), ?_⟩
  have ty0 := ty
  cases ty
  case str z =>
    have hz := hv z rfl
    have fin : ∀ {b : Bool}, tokenM z = b → ∀ {H1}, Ex H H1 → Q (.bl b) H1 := fun {b} e {H1} e1 => by
      have := k H1 e1
      rwa [show onV tokenM (.str z) = b from e] at this
    refine q_when (et_or (et_not (et_B (ev_isi (ev_var rfl) ty0 rfl))) fun _ => et_test (ev_op (ev_var rfl) ev_c (rv_eq rfl))) (fun h H1 e1 => s_ret ev_c fun H2 e2 => fin ?_ (Ex.trans e1 e2)) (fun h H1 e1 => ?_)
    · have h2 : z = ("" : Str) := V.str.inj (of_decide_eq_true (p := V.str z = V.str ("" : Str)) h)
      unfold tokenM
      rw [if_pos (str_nil.mp h2)]
    have h0 : z.length ≠ 0 := fun e => by
      have h2 : ¬ z = ("" : Str) := fun q => of_decide_eq_false (p := V.str z = V.str ("" : Str)) h (by rw [q])
      exact h2 (str_nil.mpr e)
    have hc := hd_at h0
    refine q_when (et_test (ev_op (ev_op (ev_var rfl) ev_c (rv_ixS hz hc)) ev_c rv_sign)) (fun h3 H2 e2 => s_ret (ev_callV (ea1 (ev_slS (ev_var rfl) hz (eo_some ev_c) eo_none)) fun H3 e3 Q k => ⟨_, _, rfl, .str _, fun z' hz' => ?_, k⟩) fun H3 e3 => fin ?_ ((Ex.trans e1 e2).trans e3)) (fun h3 H2 e2 => ?_)
    · injection hz' with e
      subst e
      rw [cut_tl]
      exact Nat.le_trans (tl_len z) hz
    · show tokenM z = nameM (cutS z (some 1) none)
      rw [cut_tl]
      unfold tokenM
      rw [if_neg h0, if_pos (of_decide_eq_true h3)]
    refine q_when (et_test (ev_op (ev_op (ev_var rfl) ev_c (rv_ixS hz hc)) ev_c (rv_eq rfl))) (fun h4 H3 e3 => s_ret (ev_callV (ea1 (ev_slS (ev_var rfl) hz (eo_some ev_c) eo_none)) fun H4 e4 Q k => ⟨_, _, rfl, .str _, fun z' hz' => ?_, k⟩) fun H4 e4 => fin ?_ (((Ex.trans e1 e2).trans e3).trans e4)) (fun h4 H3 e3 => ?_)
    · injection hz' with e
      subst e
      rw [cut_tl]
      exact Nat.le_trans (tl_len z) hz
    · show tokenM z = wordM (cutS z (some 1) none)
      rw [cut_tl]
      have h5 : hd z = 94 := by
        have h6 : V.str ⟨#[hd z]⟩ = V.str "^" := of_decide_eq_true h4
        injection h6 with h6
        have h7 : (⟨#[hd z]⟩ : Str).cps.toList = ("^" : Str).cps.toList := congrArg (fun s : Str => s.cps.toList) h6
        have h8 : ("^" : Str).cps.toList = [94] := by decide +kernel
        rw [h8] at h7
        exact List.head_eq_of_cons_eq h7
      unfold tokenM
      rw [if_neg h0, if_neg (of_decide_eq_false h3), if_pos h5]
    refine s_ret (ev_orV (ev_inT (ev_var rfl) ev_c T.t_BRACKETS) fun _ => ev_callV (ea1 (ev_var rfl)) fun H4 e4 Q k => ⟨_, _, rfl, .str _, hv, k⟩) fun H4 e4 => fin ?_ (((Ex.trans e1 e2).trans e3).trans e4)
    have h5 : ¬ hd z = 94 := fun e => by
      refine of_decide_eq_false h4 ?_
      rw [e]
      have : (⟨#[94]⟩ : Str) = "^" := by decide +kernel
      rw [this]
    unfold tokenM
    rw [if_neg h0, if_neg (of_decide_eq_false h3), if_neg h5]
    rfl
  all_goals exact q_when (et_noT rfl ty0 rfl rfl) (fun _ H1 e1 => s_ret ev_c fun H2 e2 => k H2 (Ex.trans e1 e2)) (fun h => absurd h (by decide))
end
end Pk
set_option Elab.async false
set_option linter.all false
set_option maxRecDepth 100000
set_option maxHeartbeats 4000000
namespace Pk
open PySem PySem.Spec PyProof.Rows L2 Evl
section
variable {P : Program} {w : World} {K : PySem.W.Frag} {mg : Str → Option Value} {base : Heap}
def oV : Option Str → V
  | none => .non
  | some z => .str z
theorem oV_non {o : Option Str} : decide (oV o = .non) = o.isNone := by cases o <;> rfl
theorem okGo_cons (o : Option Str) (z : Str) (r : List Str) : okGo o (z :: r) = (tokenM z && (match pairM z with
    | some _ => o.isNone && okGo (some z) r
    | none => if z ∈ brs then (match o with
      | none => false
      | some b => decide (pairM b = some z) && okGo none r) else okGo o r)) := rfl
theorem okGo_nil (o : Option Str) : okGo o [] = o.isNone := by unfold okGo; rfl
theorem drop_at {α : Type} {l : List α} {i : Nat} {x : α} (h : l[i]? = some x) : l.drop i = x :: l.drop (i + 1) := by
  obtain ⟨h1, h2⟩ := List.getElem?_eq_some_iff.mp h
  rw [List.drop_eq_getElem_cons h1, h2]
theorem map_at {α β : Type} {l : List α} {f : α → β} {i : Nat} {y : β} (h : (l.map f)[i]? = some y) : ∃ x, l[i]? = some x ∧ y = f x := by
  rw [List.getElem?_map] at h
  cases e : l[i]? with
  | none => rw [e] at h; cases h
  | some x => rw [e] at h; cases h; exact ⟨x, rfl, rfl⟩
-- slots: 0 things, 1 opened, 2 place, 3 thing
theorem SC_first_wrong : FnScope ["things", "opened", "place", "thing"] ["things"] (defScope (top 20)) := ⟨rfl, rfl, rfl, by decide +kernel, rfl, by decide +kernel, by decide +kernel⟩
def sp_first_wrong (K : PySem.W.Frag) : Sp := fun vs H Q _ => ∃ (a : Addr) (xs : List Str), vs = [.ref a] ∧ SqT K H a (xs.map .str) ∧ (∀ x ∈ xs, x.length ≤ 1000000) ∧ xs.length ≤ 1000000 ∧ (∀ v H', Same H H' → (v = .non ∨ ∃ i, v = .int i) → (decide (v = .non) = tokM xs) → Q v H')
theorem cl_first_wrong (T : Txt w K mg) : Cl P w K mg base CX0 3 "first_wrong" (sp_first_wrong K) := by
  obtain ⟨fd, F, hm⟩ := T.df 5 "first_wrong" 20 rfl
  refine cl0 F hm SC_first_wrong (fun vs H Q E h => by obtain ⟨a, xs, rfl, hq, hx, hl, k⟩ := h; rfl) (fun _ _ _ _ _ _ us hl => match us, hl with | [_], _ => rfl) fun cdv A outer s H vs Q E hr h => ?_
  obtain ⟨a, xs, rfl, hq, hx, hl, k⟩ := h
  refine ⟨_, (pss_cons (ps_set (i := 1) SC_first_wrong.nd rfl (Or.inl rfl) pe_non)
      (pss_cons (ps_for PassesOwn.never rfl (pi_enumT rfl T.f_enumerate (pa_cons (pv 0) pa_nil)) (pg_tup (n := 2) rfl (pgs_cons (pg_name (i := 2) SC_first_wrong.nd rfl (Or.inl rfl)) (pgs_cons (pg_name (i := 3) SC_first_wrong.nd rfl (Or.inl rfl)) pgs_nil)))
        (pss_cons (ps_if (pt_not (pt_val (pc (cl_is_token T) hr (by decide) rfl (pa_cons (pv 3) pa_nil)))) (pss_one (ps_ret (pv 2))) pss_nil)
        (pss_one (ps_if (pt_cmpR (op_inKD T.d_PAIRS) (pv 3) (C8.pe_gc rfl T.g_PAIRS) (by rfl)) (pss_cons (ps_if (pt_cmpR op_notN (pv 1) pe_non (nomark _)) (pss_one (ps_ret (pv 2))) pss_nil)
          (pss_one (ps_set (i := 1) SC_first_wrong.nd rfl (Or.inl rfl) (pv 3)))) (pss_one (ps_if (pt_cmpR op_in_seq (pv 3) (C8.pe_gc rfl T.g_BRACKETS) (by rfl)) (pss_cons (ps_if (PW.pt (pw_or (pt_cmpR op_isN (pv 1) pe_non (nomark _)) (pw_or1 (pt_cmpR op_ne (pe_ix ix_kdict (C8.pe_gc rfl T.g_PAIRS) (pv 1) (fun _ _ => rfl)) (pv 3) (nomark _))))) (pss_one (ps_ret (pv 2))) pss_nil)
            (pss_one (ps_set (i := 1) SC_first_wrong.nd rfl (Or.inl rfl) pe_non))) pss_nil))))))
      (pss_one (ps_ret (pe_ifExp (PW.pt (pw_or (pt_cmpR op_notN (pv 1) pe_non (nomark _)) (pw_or1 (pt_cmpR op_gt (pe_callB call_len_seq rfl T.f_len boot_len (pa_cons (pv 0) pa_nil)) (C8.pe_gc rfl T.g_MOST_TOKENS) (nomark _))))) (pe_callB call_len_seq rfl T.f_len boot_len (pa_cons (pv 0) pa_nil)) pe_non))))), ?_⟩
  refine s_asg (D := { nx := _, rt := Q }) ev_c fun H0 e0 => ?_
  refine q_forW walk_enumT (hwi_enumT (ev_var rfl) (ex_t e0 hq)) (fun i σ' H' => Ex H H' ∧ ∃ (o : Option Str) (x y : Option V), σ' = [some (.ref a), some (oV o), x, y] ∧ okGo none xs = okGo o (xs.drop i) ∧ ∀ b, o = some b → (pairM b).isSome = true)
    (fun H1 e1 => ⟨e0.trans e1, none, none, none, rfl, rfl, fun _ h => by cases h⟩) (fun i σ' H' _ p => ex_t p.1 hq) (fun i v σ' H1 H2 hi p hy => ?_) (fun σ' H' p => ?_)
  · obtain ⟨e1, o, x0, y0, rfl, inv, ho⟩ := p
    refine y_pair hy fun x y hx1 hy1 e2 => ?_
    injection hx1 with hx1
    subst hx1
    obtain ⟨z, hz, rfl⟩ := map_at hy1
    have hzl := hx z (List.mem_of_getElem? hz)
    have E2 := e1.trans e2
    rw [drop_at hz, okGo_cons] at inv
    have bad : okGo none xs = false → ∀ H', Ex H H' → Q (.int (i : Nat)) H' := fun h H' e => k _ H' e (.inr ⟨_, rfl⟩) (by unfold tokM; rw [h]; rfl)
    refine q_when (et_not (et_B (ev_callV (ea1 (ev_var rfl)) fun H3 e3 Q k => ⟨.str z, "str", rfl, .str z, fun w hw => by cases hw; exact hzl, k⟩))) (fun h H3 e3 => s_ret (ev_var rfl) fun H4 e4 => bad ?_ H4 (E2.trans (e3.trans e4))) (fun h H3 e3 => ?_)
    · rw [inv, show tokenM z = false from bnt h]; rfl
    rw [show tokenM z = true from bnf h, Bool.true_and] at inv
    have E3 := E2.trans e3
    refine s_if (et_test (ev_op (ev_var rfl) ev_c (rv_inKD T.p_PAIRS))) (fun h2 H4 e4 => ?_) (fun h2 H4 e4 => ?_)
    · have hp : (pairM z).isSome = true := h2
      obtain ⟨c, hc⟩ := Option.isSome_iff_exists.mp hp
      rw [hc] at inv
      refine q_when (et_test (ev_op (ev_var rfl) ev_c rv_isn)) (fun h3 H5 e5 => s_ret (ev_var rfl) fun H6 e6 => bad ?_ H6 (E3.trans (e4.trans (e5.trans e6)))) (fun h3 H5 e5 => s_asg (ev_var rfl) fun H6 e6 => ⟨E3.trans (e4.trans (e5.trans e6)), some z, _, _, rfl, ?_, fun b hb => by cases hb; exact hp⟩)
      · rw [oV_non] at h3
        rw [inv, bnt (b := o.isNone) h3]; rfl
      · rw [oV_non] at h3
        rw [inv, bnf (b := o.isNone) h3]; rfl
    have hp : pairM z = none := Option.isSome_eq_false_iff.mp h2 |> Option.isNone_iff_eq_none.mp
    rw [hp] at inv
    refine s_when (et_test (ev_inT (ev_var rfl) ev_c T.t_BRACKETS)) (fun h3 H5 e5 => ?_) (fun h3 H5 e5 => ⟨E3.trans (e4.trans e5), o, _, _, rfl, ?_, ho⟩)
    · have hb : z ∈ brs := of_decide_eq_true h3
      simp only [if_pos hb] at inv
      cases o with
      | none =>
        refine q_when (b := true) (et_or1 (et_test (ev_op (ev_var rfl) ev_c rv_is))) (fun _ H6 e6 => s_ret (ev_var rfl) fun H7 e7 => bad inv H7 (E3.trans (e4.trans (e5.trans (e6.trans e7))))) (fun h => by cases h)
      | some b =>
        obtain ⟨c, hc⟩ := Option.isSome_iff_exists.mp (ho b rfl)
        simp only [hc] at inv
        refine q_when (et_or (et_test (ev_op (ev_var rfl) ev_c rv_is)) fun _ => et_test (ev_op (ev_op ev_c (ev_var rfl) (rv_ixKD (v := .str c) T.p_PAIRS T.d_PAIRS hc fun u hu => hu)) (ev_var rfl) (rv_ne rfl))) (fun h4 H6 e6 => s_ret (ev_var rfl) fun H7 e7 => bad ?_ H7 (E3.trans (e4.trans (e5.trans (e6.trans e7)))))
          (fun h4 H6 e6 => s_asg ev_c fun H7 e7 => ⟨E3.trans (e4.trans (e5.trans (e6.trans e7))), none, _, _, rfl, ?_, fun _ h => by cases h⟩)
        · have h5 : decide (V.str c = V.str z) = false := bnt h4
          have h6 : ¬ c = z := fun q => of_decide_eq_false h5 (by rw [q])
          rw [inv, decide_eq_false (fun q => h6 (Option.some.inj q))]; rfl
        · have h5 : decide (V.str c = V.str z) = true := bnf h4
          have h6 : c = z := V.str.inj (of_decide_eq_true h5)
          rw [inv, h6, decide_eq_true rfl]; rfl
    · have hb : ¬ z ∈ brs := of_decide_eq_false h3
      simp only [if_neg hb] at inv
      exact inv
  · obtain ⟨e1, o, x0, y0, rfl, inv, ho⟩ := p
    rw [List.length_map, List.drop_length, okGo_nil] at inv
    have hle : (xs.map V.str).length = xs.length := List.length_map ..
    have hlen : (40 < (xs.length : Int)) ↔ ¬ xs.length ≤ 40 := by omega
    cases hb : (!o.isNone || decide (40 < (xs.length : Int))) with
    | true =>
      have ht : tokM xs = false := by
        unfold tokM
        rw [inv]
        cases ho2 : o.isNone with
        | false => rfl
        | true =>
          rw [ho2] at hb
          have : 40 < (xs.length : Int) := of_decide_eq_true hb
          rw [decide_eq_false (hlen.mp this)]; rfl
      refine s_ret (ev_if (b := true) (et_is (et_or (et_is (et_test (ev_op (ev_var rfl) ev_c rv_isn)) (by rw [oV_non])) fun _ => et_test (ev_op (ev_cb (ea1 (ev_var rfl)) (rc_lenT (ex_t e1 hq))) ev_c rv_I0)) (by rw [hle]; exact hb)) (fun _ => ev_cb (ea1 (ev_var rfl)) (rc_lenT (ex_t e1 hq))) (fun h => by cases h)) fun H2 e2 => k _ H2 (e1.trans e2) (.inr ⟨_, rfl⟩) (by rw [ht]; rfl)
    | false =>
      have ht : tokM xs = true := by
        unfold tokM
        rw [inv]
        cases ho2 : o.isNone with
        | false => rw [ho2] at hb; cases hb
        | true =>
          rw [ho2] at hb
          have : ¬ 40 < (xs.length : Int) := of_decide_eq_false hb
          rw [decide_eq_true (Classical.not_not.mp fun q => this (hlen.mpr q))]; rfl
      refine s_ret (ev_if (b := false) (et_is (et_or (et_is (et_test (ev_op (ev_var rfl) ev_c rv_isn)) (by rw [oV_non])) fun _ => et_test (ev_op (ev_cb (ea1 (ev_var rfl)) (rc_lenT (ex_t e1 hq))) ev_c rv_I0)) (by rw [hle]; exact hb)) (fun h => by cases h) (fun _ => ev_c)) fun H2 e2 => k _ H2 (e1.trans e2) (.inl rfl) (by rw [ht]; rfl)
/-! ### a part of a row as a value -/
/-- a text that may be compared -/
def Gd (x : Str) : Prop := x.length ≤ 1000000 ∧ PySem.PyData.strOk x = true
inductive PartAt (K : PySem.W.Frag) (H : Hp) : Part → V → Prop where
  | z : PartAt K H .z .non
  | n (i : Int) : PartAt K H (.n i) (.int i)
  | s {x : Str} (h : Gd x) : PartAt K H (.s x) (.str x)
  | t {a : Addr} {xs : List Str} (h : SqT K H a (xs.map .str)) (hx : ∀ x ∈ xs, Gd x) (hl : xs.length ≤ 1000000) : PartAt K H (.t xs) (.ref a)
theorem PartAt.mono {H H' : Hp} {p : Part} {v : V} (e : Ex H H') (h : PartAt K H p v) : PartAt K H' p v := by
  cases h with
  | z => exact .z
  | n i => exact .n i
  | s h => exact .s h
  | t h hx hl => exact .t (ex_t e h) hx hl
theorem PartAt.ty {H : Hp} {p : Part} {v : V} (h : PartAt K H p v) : ∃ t, VT K H v t := by
  cases h with
  | z => exact ⟨_, .non⟩
  | n i => exact ⟨_, .int i⟩
  | s h => exact ⟨_, .str _⟩
  | t h hx hl => exact ⟨_, .tup h⟩
theorem PartAt.gv {H : Hp} {p : Part} {v : V} (h : PartAt K H p v) : GV v := fun z hz => by
  cases h with
  | s h => cases hz; exact h.1
  | _ => cases hz
theorem PartAt.on {H : Hp} {p : Part} {v : V} (h : PartAt K H p v) (f : Str → Bool) : onV f v = onS f p := by cases h <;> rfl
theorem okGo_all : ∀ {xs : List Str} {o : Option Str}, okGo o xs = true → ∀ x ∈ xs, tokenM x = true
  | [], _, _, _, h => by cases h
  | z :: r, o, h, x, hx => by
    rw [okGo_cons] at h
    have h1 : tokenM z = true := by cases e : tokenM z with
      | true => rfl
      | false => rw [e] at h; cases h
    rw [h1, Bool.true_and] at h
    rcases List.mem_cons.mp hx with rfl | hx
    · exact h1
    · cases hp : pairM z with
      | some c =>
        rw [hp] at h
        have h2 : okGo (some z) r = true := by cases e : okGo (some z) r with
          | true => rfl
          | false => rw [e] at h; simp at h
        exact okGo_all h2 x hx
      | none =>
        rw [hp] at h
        simp only at h
        by_cases hb : z ∈ brs
        · rw [if_pos hb] at h
          cases o with
          | none => cases h
          | some b =>
            have h2 : okGo none r = true := by cases e : okGo none r with
              | true => rfl
              | false => rw [e] at h; simp at h
            exact okGo_all h2 x hx
        · rw [if_neg hb] at h
          exact okGo_all h x hx
theorem tokM_all {xs : List Str} (h : tokM xs = true) : ∀ x ∈ xs, tokenM x = true := by
  unfold tokM at h
  have h2 : okGo none xs = true := by cases e : okGo none xs with
    | true => rfl
    | false => rw [e] at h; simp at h
  exact okGo_all h2
theorem tokenM_ne {z : Str} (h : tokenM z = true) : z.length ≠ 0 := fun e => by
  unfold tokenM at h
  rw [if_pos e] at h
  cases h
-- slots: 0 thing, 1 plain, 2 token
theorem SC_is_tokens : FnScope ["thing", "plain", "token"] ["thing", "plain"] (defScope (top 21)) := ⟨rfl, rfl, rfl, by decide +kernel, rfl, by decide +kernel, by decide +kernel⟩
def sp_is_tokens (K : PySem.W.Frag) : Sp := fun vs H Q _ => ∃ (v : V) (p : Part) (b : Bool), vs = [v, .bl b] ∧ PartAt K H p v ∧ RetV (.bl (onT (tokensM b) p)) H Q
/-- any([f(t) for t in a tuple of texts]) -/
theorem any_strs (xs : List Str) (f : Str → Bool) (q : V → V) (h : ∀ x, q (.str x) = .bl (f x)) : (((xs.map V.str).filter fun _ => true).map q) = (xs.map f).map V.bl := by
  induction xs with
  | nil => rfl
  | cons a l ih =>
    rw [List.map_cons, List.filter_cons, if_pos rfl, List.map_cons, ih, h]
    rfl
theorem any_map (xs : List Str) (f : Str → Bool) : (xs.map f).any id = xs.any f := by
  induction xs with
  | nil => rfl
  | cons a l ih => simp
theorem cl0_is_tokens (T : Txt w K mg) : ∃ fd, FnOk P w K mg base CX0 4 (He.ga K "is_tokens") fd ["thing", "plain"] (sp_is_tokens K) ∧ mg "is_tokens" = some (.ref (He.ga K "is_tokens")) ∧ PySem.W.keepIn K (.ref (He.ga K "is_tokens")) = true ∧
    (∃ ds, Vals [V.bl false] ds ∧ Binds K fd ["thing", "plain"] ds) ∧ ∃ mv : List Value, KBn K fd ["thing", "plain"] 1 ["plain"] (fun us ws => us ++ (mv ++ ws)) (fun vs zs => vs ++ ([] ++ zs)) := by
  obtain ⟨fd, F⟩ := T.fn 6 _ rfl
  refine ⟨fd, F.ok SC_is_tokens (fun vs H Q E h => by obtain ⟨v, p, b, rfl, _⟩ := h; rfl) fun cdv A outer s H vs Q E hr h => ?_, T.gl 6 _ rfl rfl, F.kp, ?_, ?_⟩
  · obtain ⟨v, p, b, rfl, hp, k⟩ := h
    suffices hh : ∃ t, PSs (cxOf CX0 P w K mg base ["thing", "plain", "token"] "is_tokens" (defScope (top 21)) (He.ga K "is_tokens") cdv A outer s H E).nox (defBody (top 21)) t ∧ t { nx := fun _ H' => Q .non H', rt := Q } (start ["thing", "plain", "token"] [v, .bl b]) H by
      obtain ⟨t, h1, h2⟩ := hh
      exact ⟨t, h1.nox, h2⟩
    refine ⟨_, (pss_cons (ps_if (PW.pt (pw_or (pt_not (pt_val (pe_callB call_is rfl T.f_isinstance boot_isinstance (pa_cons (pv 0) (pa_cons (pe_ty rfl T.f_tuple boot_tuple) pa_nil))))) (pw_or1 (pt_cmpR op_notN (pc (cl_first_wrong T) hr (by decide) rfl (pa_cons (pv 0) pa_nil)) pe_non (nomark _))))) (pss_one (ps_ret pe_bl)) pss_nil)
      (pss_one (ps_ret (pe_or (pe_not (pv 1)) (pe_one (pe_not (pe_callB (cr_any rfl) rfl T.f_any boot_any (pa_cons (pe_lc (own := [("token", 2)]) (g := gName 2) (tt := tYes) rfl SC_is_tokens.nd (pi_tup (pv 0)) (blkOk_by (own := [("token", 2)]) (N := ["thing", "plain", "token"]) (sc := defScope (top 21)) (by decide +kernel)) (fun _ _ _ _ _ => (pg_name (i := 2) SC_is_tokens.nd rfl (Or.inl rfl))) (fun _ _ _ _ _ => pts_nil) (fun _ _ _ _ _ => (pe_cmpR (show OpR _ _ (rIn K false) from op_in_seq) (pv 2) (C8.pe_gc rfl T.g_BRACKETS) (by rfl)))) pa_nil)))))))), ?_⟩
    obtain ⟨ty, hty⟩ := hp.ty
    cases hp
    case t a xs hq hx hl =>
      have hfw : EvT (tTest (tOp (fun x y H Q => y = V.non ∧ Q (V.bl !decide (x = V.non)) H) (tCall (sp_first_wrong K) [] E0 (tCons (tVar 0) tNil)) (tC .non))) (start ["thing", "plain", "token"] [.ref a, .bl b]) H (!tokM xs) := fun H1 e1 Q q =>
        ⟨.ref a, rfl, a, xs, rfl, ex_t e1 hq, fun x h => (hx x h).1, hl, fun v H2 e2 _ hv => ⟨rfl, _, rfl, by rw [hv]; exact q H2 e2⟩⟩
      refine q_when (et_or (et_not (et_B (ev_isi (ev_var rfl) (.tup hq) rfl))) fun _ => hfw) (fun h H1 e1 => s_ret ev_c fun H2 e2 => ?_) (fun h H1 e1 => ?_)
      · have h2 : tokM xs = false := bnt h
        have := k H2 (e1.trans e2)
        rwa [show onT (tokensM b) (.t xs) = false from by show (tokM xs && _) = false; rw [h2]; rfl] at this
      · have h2 : tokM xs = true := bnf h
        refine s_ret (ev_orV (ev_notV (ev_var rfl)) fun _ => ev_notV (ev_any (bs := xs.map fun z => decide (z ∈ brs)) (el_is (el_tup (fun _ => true) (fun v => match v with
            | .str z => .bl (decide (z ∈ brs))
            | _ => .non) (ev_var rfl) (ex_t e1 hq) (sz (by rw [List.length_map]; exact hl)) (fun _ => rfl) (fun _ _ _ _ => et_yes) fun x H0 hx0 e0 _ => ?_) (any_strs xs _ _ fun _ => rfl)))) fun H2 e2 => ?_
        · obtain ⟨z, _, rfl⟩ := List.mem_map.mp hx0
          exact ev_inT (ev_var rfl) ev_c T.t_BRACKETS
        · have := k H2 (e1.trans e2)
          rw [any_map]
          rwa [show onT (tokensM b) (.t xs) = (!b || !xs.any fun z => decide (z ∈ brs)) from by show (tokM xs && _) = _; rw [h2]; rfl] at this
    all_goals exact q_when (et_noT rfl (by first | exact .non | exact .int _ | exact .str _) rfl rfl) (fun _ H1 e1 => s_ret ev_c fun H2 e2 => k H2 (Ex.trans e1 e2)) (fun h => absurd h (by decide))
  · exact F.binds0 1 (fun h => by cases h) rfl fun D doc pm an cdv ct us ks l1 l2 => by
      match us, l1 with
      | [u], _ =>
        match ks, l2 with
        | [k], _ => exact ⟨_, _, _, _, _, _, rfl, rfl, rfl⟩
  · exact F.kbinds0 1 ["plain"] [] (fun us mv ws => us ++ (mv ++ ws)) (fun h => by cases h) (fun _ h => by cases h) (fun a b c => a.append (b.append c)) fun D doc pm an cdv ct us mv ws l1 l2 l3 => by
      match us, l1 with
      | [u], _ =>
        match mv, l2 with
        | [], _ =>
          match ws, l3 with
          | [k], _ => exact rfl
end
end Pk
set_option Elab.async false
set_option linter.all false
set_option maxRecDepth 100000
set_option maxHeartbeats 4000000
namespace Pk
open PySem PySem.Spec PyProof.Rows L2 Evl
section
variable {X : Cx} {j : Nat} {p pos : Pos} {e : Expr} {es : List Expr} {t tk : TA} {kws : List Keyword}
theorem pck_is_tokens (c : ∃ fd, FnOk X.prog X.w X.K X.mg X.base CX0 4 (He.ga X.K "is_tokens") fd ["thing", "plain"] (sp_is_tokens X.K) ∧ X.mg "is_tokens" = some (.ref (He.ga X.K "is_tokens")) ∧ PySem.W.keepIn X.K (.ref (He.ga X.K "is_tokens")) = true ∧
    (∃ ds, Vals [V.bl false] ds ∧ Binds X.K fd ["thing", "plain"] ds) ∧ ∃ mv : List Value, KBn X.K fd ["thing", "plain"] 1 ["plain"] (fun us ws => us ++ (mv ++ ws)) (fun vs zs => vs ++ ([] ++ zs)))
    (hr : Room j X.A) (hk : 4 ≤ j) (hg : Gl X "is_tokens") (ha : PA X (e :: es) t) (hkw : PK X kws tk) (hall : (backToKw pos (keywordEach kws X.env)).all (·.1.isSome) = true := by rfl) (hks : (backToKw pos (keywordEach kws X.env)).filterMap (·.1) = [("plain" : Str)] := by rfl)
    (he : starEach (e :: es) X.env = (false, eval e X.env) :: starEach es X.env := by rfl)
    (hpl : ((backTo pos (starEach (e :: es) X.env)).any (·.1) || (backToKw pos (keywordEach kws X.env)).any (·.1.isNone)) = false := by rfl) :
    PE X (.Call (.Name "is_tokens" p) (e :: es) kws pos) (tCallN 1 1 (sp_is_tokens X.K) (fun vs zs => vs ++ ([] ++ zs)) E0 t tk) := by
  obtain ⟨fd, F, hm, kp, _, mv, kb⟩ := c
  exact pe_callN F (hr.mono hk) hg hm kp kb pass0 ha hkw hall hks (by decide) he hpl
end
section
variable {P : Program} {w : World} {K : PySem.W.Frag} {mg : Str → Option Value} {base : Heap}
/-- a check of a part -/
def sp_chk (K : PySem.W.Frag) (m : Part → Bool) : Sp := fun vs H Q _ => ∃ (v : V) (p : Part), vs = [v] ∧ PartAt K H p v ∧ RetV (.bl (m p)) H Q
-- slots: 0 thing
theorem SC_is_plain : FnScope ["thing"] ["thing"] (defScope (top 22)) := ⟨rfl, rfl, rfl, by decide +kernel, rfl, by decide +kernel, by decide +kernel⟩
def sp_is_plain (K : PySem.W.Frag) : Sp := sp_chk K (onT (tokensM true))
theorem cl_is_plain (T : Txt w K mg) : Cl P w K mg base CX0 5 "is_plain" (sp_is_plain K) := by
  obtain ⟨fd, F, hm⟩ := T.df 7 "is_plain" 22 rfl
  refine cl0 F hm SC_is_plain (fun vs H Q E h => by obtain ⟨v, p, rfl, hp, k⟩ := h; rfl) (fun _ _ _ _ _ _ us hl => match us, hl with | [_], _ => rfl) fun cdv A outer s H vs Q E hr h => ?_
  obtain ⟨v, p, rfl, hp, k⟩ := h
  refine ⟨_, (pss_one (ps_ret (pck_is_tokens (cl0_is_tokens T) hr (by decide) rfl (pa_cons (pv 0) pa_nil) (pk_cons pe_bl pk_nil)))), ?_⟩
  exact s_ret (v := .bl (onT (tokensM true) p)) (fun H1 e1 Q q => ⟨v, rfl, rfl, rfl, v, p, true, rfl, hp.mono e1, fun H2 e2 => q H2 e2⟩) fun H1 e1 => k H1 e1
-- slots: 0 thing, 1 token
theorem SC_is_bare : FnScope ["thing", "token"] ["thing"] (defScope (top 23)) := ⟨rfl, rfl, rfl, by decide +kernel, rfl, by decide +kernel, by decide +kernel⟩
def sp_is_bare (K : PySem.W.Frag) : Sp := sp_chk K (onT bareM)
theorem cl_is_bare (T : Txt w K mg) : Cl P w K mg base CX0 6 "is_bare" (sp_is_bare K) := by
  obtain ⟨fd, F, hm⟩ := T.df 8 "is_bare" 23 rfl
  refine cl0 F hm SC_is_bare (fun vs H Q E h => by obtain ⟨v, p, rfl, hp, k⟩ := h; rfl) (fun _ _ _ _ _ _ us hl => match us, hl with | [_], _ => rfl) fun cdv A outer s H vs Q E hr h => ?_
  obtain ⟨v, p, rfl, hp, k⟩ := h
  refine ⟨_, (pss_one (ps_ret (pe_and (pc (cl_is_plain T) hr (by decide) rfl (pa_cons (pv 0) pa_nil)) (pe_one (pe_not (pe_callB (cr_any rfl) rfl T.f_any boot_any (pa_cons (pe_lc (own := [("token", 1)]) (g := gName 1) (tt := tYes) rfl SC_is_bare.nd (pi_tup (pv 0)) (blkOk_by (own := [("token", 1)]) (N := ["thing", "token"]) (sc := defScope (top 23)) (by decide +kernel)) (fun _ _ _ _ _ => (pg_name (i := 1) SC_is_bare.nd rfl (Or.inl rfl))) (fun _ _ _ _ _ => pts_nil) (fun _ _ _ _ _ => (pe_cmpR op_in_sign (pe_ix ix_str (pv 1) pe_int (fun _ _ => rfl)) pe_str rfl))) pa_nil))))))), ?_⟩
  have h1 : Ev (tCall (sp_is_plain K) [] E0 (tCons (tVar 0) tNil)) (start ["thing", "token"] [v]) H (.bl (onT (tokensM true) p)) := ev_callV (ea1 (ev_var rfl)) fun H1 e1 Q k => ⟨v, p, rfl, hp.mono e1, k⟩
  have h2 : onT (tokensM true) p = true → ∃ a xs, p = .t xs ∧ v = .ref a ∧ SqT K H a (xs.map .str) ∧ (∀ x ∈ xs, tokenM x = true ∧ x.length ≤ 1000000) ∧ xs.length ≤ 1000000 ∧ tokensM true xs = true := fun h => by
    cases hp with
    | t hq hx hl =>
      rename_i a xs
      have h4 : tokensM true xs = true := h
      have h3 : tokM xs = true := by
        unfold tokensM at h4
        cases e : tokM xs with
        | true => rfl
        | false => rw [e] at h4; cases h4
      exact ⟨a, xs, rfl, rfl, hq, fun x h => ⟨tokM_all h3 x h, (hx x h).1⟩, hl, h4⟩
    | _ => cases h
  cases hb : onT (tokensM true) p with
  | false =>
    rw [hb] at h1
    refine s_ret (ev_andV h1 (b := false) fun h => by cases h) fun H2 e2 => ?_
    have := k H2 e2
    have e : onT bareM p = false := by
      cases p with
      | t xs =>
        have : tokensM true xs = false := hb
        show bareM xs = false
        unfold bareM
        rw [this]; rfl
      | _ => rfl
    rwa [e] at this
  | true =>
    rw [hb] at h1
    obtain ⟨a, xs, rfl, rfl, hq, hx, hl, ht⟩ := h2 hb
    refine s_ret (ev_andV h1 fun _ => ev_notV (ev_any (bs := xs.map fun z => decide (hd z ∈ sTwo.cps.toList)) (el_is (el_tup (fun _ => true) (fun v => match v with
            | .str z => .bl (decide (hd z ∈ sTwo.cps.toList))
            | _ => .non) (ev_var rfl) hq (sz (by rw [List.length_map]; exact hl)) (fun _ => rfl) (fun _ _ _ _ => et_yes) fun x H0 hx0 e0 _ => ?_) (any_strs xs _ _ fun _ => rfl)))) fun H2 e2 => ?_
    · obtain ⟨z, hz, rfl⟩ := List.mem_map.mp hx0
      exact ev_op (ev_op (ev_var rfl) ev_c (rv_ixS (hx z hz).2 (hd_at (tokenM_ne (hx z hz).1)))) ev_c rv_sign
    · have := k H2 e2
      rw [any_map]
      rwa [show onT bareM (.t xs) = (true && !xs.any fun z => decide (hd z ∈ sTwo.cps.toList)) from by show bareM xs = _; unfold bareM; rw [ht]] at this
-- slots: 0 thing
theorem SC_is_style : FnScope ["thing"] ["thing"] (defScope (top 35)) := ⟨rfl, rfl, rfl, by decide +kernel, rfl, by decide +kernel, by decide +kernel⟩
def sp_is_style (K : PySem.W.Frag) : Sp := sp_chk K (onS styleM)
theorem cl_is_style (T : Txt w K mg) : Cl P w K mg base CX0 2 "is_style" (sp_is_style K) := by
  obtain ⟨fd, F, hm⟩ := T.df 10 "is_style" 35 rfl
  refine cl0 F hm SC_is_style (fun vs H Q E h => by obtain ⟨v, p, rfl, hp, k⟩ := h; rfl) (fun _ _ _ _ _ _ us hl => match us, hl with | [_], _ => rfl) fun cdv A outer s H vs Q E hr h => ?_
  obtain ⟨v, p, rfl, hp, k⟩ := h
  refine ⟨_, (pss_one (ps_ret (pe_or (pc (cl_is_name T) hr (by decide) rfl (pa_cons (pv 0) pa_nil)) (pe_one (pe_and (pe_callB call_is rfl T.f_isinstance boot_isinstance (pa_cons (pv 0) (pa_cons (pe_ty rfl T.f_str boot_str) pa_nil))) (pe_one (pe_cmpR op_eq (pv 0) (C8.pe_gc rfl T.g_NO_STYLE) (nomark _)))))))), ?_⟩
  obtain ⟨ty, hty⟩ := hp.ty
  have h1 : Ev (tCall (sp_is_name K) [] E0 (tCons (tVar 0) tNil)) (start ["thing"] [v]) H (.bl (onV nameM v)) := ev_callV (ea1 (ev_var rfl)) fun H1 e1 Q k => ⟨v, ty, rfl, hty.mono e1, hp.gv, k⟩
  have fin : ∀ {b : Bool}, onS styleM p = b → ∀ {H1}, Ex H H1 → Q (.bl b) H1 := fun {b} e {H1} e1 => by
    have := k H1 e1
    rwa [e] at this
  cases hp
  case s z hz =>
    cases hty
    exact s_ret (ev_orV h1 fun _ => ev_andV (ev_isi (ev_var rfl) (.str z) rfl) fun _ => ev_op (ev_var rfl) ev_c (rv_eq rfl)) fun H1 e1 => fin (by
      show styleM z = (nameM z || (true && decide (V.str z = V.str "-")))
      unfold styleM
      rw [Bool.true_and]
      congr 1
      exact decide_eq_decide.mpr ⟨fun h => by rw [h], fun h => V.str.inj h⟩) e1
  all_goals exact s_ret (ev_orV h1 fun _ => ev_andV (b := false) (ev_isi (ev_var rfl) hty rfl) fun h => by cases hty; cases h) fun H1 e1 => fin (by cases hty; rfl) e1
-- slots: 0 thing
theorem SC_is_align : FnScope ["thing"] ["thing"] (defScope (top 36)) := ⟨rfl, rfl, rfl, by decide +kernel, rfl, by decide +kernel, by decide +kernel⟩
def sp_is_align (K : PySem.W.Frag) : Sp := sp_chk K (onS fun z => decide (z ∈ aligns))
theorem cl_is_align (T : Txt w K mg) : Cl P w K mg base CX0 1 "is_align" (sp_is_align K) := by
  obtain ⟨fd, F, hm⟩ := T.df 11 "is_align" 36 rfl
  refine cl0 F hm SC_is_align (fun vs H Q E h => by obtain ⟨v, p, rfl, hp, k⟩ := h; rfl) (fun _ _ _ _ _ _ us hl => match us, hl with | [_], _ => rfl) fun cdv A outer s H vs Q E hr h => ?_
  obtain ⟨v, p, rfl, hp, k⟩ := h
  refine ⟨_, (pss_one (ps_ret (pe_and (pe_callB call_is rfl T.f_isinstance boot_isinstance (pa_cons (pv 0) (pa_cons (pe_ty rfl T.f_str boot_str) pa_nil))) (pe_one (pe_cmpR op_in_seq (pv 0) (C8.pe_gc rfl T.g_ALIGNS) (by rfl)))))), ?_⟩
  obtain ⟨ty, hty⟩ := hp.ty
  cases hp
  case s z hz =>
    cases hty
    exact s_ret (ev_andV (ev_isi (ev_var rfl) (.str z) rfl) fun _ => ev_inT (ev_var rfl) ev_c T.t_ALIGNS) fun H1 e1 => k H1 e1
  all_goals exact s_ret (ev_andV (b := false) (ev_isi (ev_var rfl) hty rfl) fun h => by cases hty; cases h) fun H1 e1 => by cases hty; exact k H1 e1
-- slots: 0 thing
theorem SC_is_counted : FnScope ["thing"] ["thing"] (defScope (top 37)) := ⟨rfl, rfl, rfl, by decide +kernel, rfl, by decide +kernel, by decide +kernel⟩
def sp_is_counted (K : PySem.W.Frag) : Sp := sp_chk K (onS fun z => decide (z ∈ counteds))
theorem cl_is_counted (T : Txt w K mg) : Cl P w K mg base CX0 1 "is_counted" (sp_is_counted K) := by
  obtain ⟨fd, F, hm⟩ := T.df 12 "is_counted" 37 rfl
  refine cl0 F hm SC_is_counted (fun vs H Q E h => by obtain ⟨v, p, rfl, hp, k⟩ := h; rfl) (fun _ _ _ _ _ _ us hl => match us, hl with | [_], _ => rfl) fun cdv A outer s H vs Q E hr h => ?_
  obtain ⟨v, p, rfl, hp, k⟩ := h
  refine ⟨_, (pss_one (ps_ret (pe_and (pe_callB call_is rfl T.f_isinstance boot_isinstance (pa_cons (pv 0) (pa_cons (pe_ty rfl T.f_str boot_str) pa_nil))) (pe_one (pe_cmpR op_in_seq (pv 0) (C8.pe_gc rfl T.g_COUNTED) (by rfl)))))), ?_⟩
  obtain ⟨ty, hty⟩ := hp.ty
  cases hp
  case s z hz =>
    cases hty
    exact s_ret (ev_andV (ev_isi (ev_var rfl) (.str z) rfl) fun _ => ev_inT (ev_var rfl) ev_c T.t_COUNTED) fun H1 e1 => k H1 e1
  all_goals exact s_ret (ev_andV (b := false) (ev_isi (ev_var rfl) hty rfl) fun h => by cases hty; cases h) fun H1 e1 => by cases hty; exact k H1 e1
-- slots: 0 thing
theorem SC_is_way : FnScope ["thing"] ["thing"] (defScope (top 38)) := ⟨rfl, rfl, rfl, by decide +kernel, rfl, by decide +kernel, by decide +kernel⟩
def sp_is_way (K : PySem.W.Frag) : Sp := sp_chk K (onS fun z => decide (z ∈ ways))
theorem cl_is_way (T : Txt w K mg) : Cl P w K mg base CX0 1 "is_way" (sp_is_way K) := by
  obtain ⟨fd, F, hm⟩ := T.df 13 "is_way" 38 rfl
  refine cl0 F hm SC_is_way (fun vs H Q E h => by obtain ⟨v, p, rfl, hp, k⟩ := h; rfl) (fun _ _ _ _ _ _ us hl => match us, hl with | [_], _ => rfl) fun cdv A outer s H vs Q E hr h => ?_
  obtain ⟨v, p, rfl, hp, k⟩ := h
  refine ⟨_, (pss_one (ps_ret (pe_and (pe_callB call_is rfl T.f_isinstance boot_isinstance (pa_cons (pv 0) (pa_cons (pe_ty rfl T.f_str boot_str) pa_nil))) (pe_one (pe_cmpR op_in_seq (pv 0) (C8.pe_gc rfl T.g_WAYS) (by rfl)))))), ?_⟩
  obtain ⟨ty, hty⟩ := hp.ty
  cases hp
  case s z hz =>
    cases hty
    exact s_ret (ev_andV (ev_isi (ev_var rfl) (.str z) rfl) fun _ => ev_inT (ev_var rfl) ev_c T.t_WAYS) fun H1 e1 => k H1 e1
  all_goals exact s_ret (ev_andV (b := false) (ev_isi (ev_var rfl) hty rfl) fun h => by cases hty; cases h) fun H1 e1 => by cases hty; exact k H1 e1
-- slots: 0 thing
theorem SC_is_sort : FnScope ["thing"] ["thing"] (defScope (top 39)) := ⟨rfl, rfl, rfl, by decide +kernel, rfl, by decide +kernel, by decide +kernel⟩
def sp_is_sort (K : PySem.W.Frag) : Sp := sp_chk K (onS fun z => decide (z ∈ sorts))
theorem cl_is_sort (T : Txt w K mg) : Cl P w K mg base CX0 1 "is_sort" (sp_is_sort K) := by
  obtain ⟨fd, F, hm⟩ := T.df 14 "is_sort" 39 rfl
  refine cl0 F hm SC_is_sort (fun vs H Q E h => by obtain ⟨v, p, rfl, hp, k⟩ := h; rfl) (fun _ _ _ _ _ _ us hl => match us, hl with | [_], _ => rfl) fun cdv A outer s H vs Q E hr h => ?_
  obtain ⟨v, p, rfl, hp, k⟩ := h
  refine ⟨_, (pss_one (ps_ret (pe_and (pe_callB call_is rfl T.f_isinstance boot_isinstance (pa_cons (pv 0) (pa_cons (pe_ty rfl T.f_str boot_str) pa_nil))) (pe_one (pe_cmpR op_in_seq (pv 0) (C8.pe_gc rfl T.g_SORTS) (by rfl)))))), ?_⟩
  obtain ⟨ty, hty⟩ := hp.ty
  cases hp
  case s z hz =>
    cases hty
    exact s_ret (ev_andV (ev_isi (ev_var rfl) (.str z) rfl) fun _ => ev_inT (ev_var rfl) ev_c T.t_SORTS) fun H1 e1 => k H1 e1
  all_goals exact s_ret (ev_andV (b := false) (ev_isi (ev_var rfl) hty rfl) fun h => by cases hty; cases h) fun H1 e1 => by cases hty; exact k H1 e1
-- slots: 0 thing
theorem SC_is_kind : FnScope ["thing"] ["thing"] (defScope (top 40)) := ⟨rfl, rfl, rfl, by decide +kernel, rfl, by decide +kernel, by decide +kernel⟩
def sp_is_kind (K : PySem.W.Frag) : Sp := sp_chk K (onS fun z => decide (z ∈ kinds))
theorem cl_is_kind (T : Txt w K mg) : Cl P w K mg base CX0 1 "is_kind" (sp_is_kind K) := by
  obtain ⟨fd, F, hm⟩ := T.df 15 "is_kind" 40 rfl
  refine cl0 F hm SC_is_kind (fun vs H Q E h => by obtain ⟨v, p, rfl, hp, k⟩ := h; rfl) (fun _ _ _ _ _ _ us hl => match us, hl with | [_], _ => rfl) fun cdv A outer s H vs Q E hr h => ?_
  obtain ⟨v, p, rfl, hp, k⟩ := h
  refine ⟨_, (pss_one (ps_ret (pe_and (pe_callB call_is rfl T.f_isinstance boot_isinstance (pa_cons (pv 0) (pa_cons (pe_ty rfl T.f_str boot_str) pa_nil))) (pe_one (pe_cmpR op_in_seq (pv 0) (C8.pe_gc rfl T.g_KINDS) (by rfl)))))), ?_⟩
  obtain ⟨ty, hty⟩ := hp.ty
  cases hp
  case s z hz =>
    cases hty
    exact s_ret (ev_andV (ev_isi (ev_var rfl) (.str z) rfl) fun _ => ev_inT (ev_var rfl) ev_c T.t_KINDS) fun H1 e1 => k H1 e1
  all_goals exact s_ret (ev_andV (b := false) (ev_isi (ev_var rfl) hty rfl) fun h => by cases hty; cases h) fun H1 e1 => by cases hty; exact k H1 e1
end
end Pk
set_option Elab.async false
set_option linter.all false
set_option maxRecDepth 100000
set_option maxHeartbeats 4000000
namespace Pk
open PySem PySem.Spec PyProof.Rows L2 Evl
section
variable {P : Program} {w : World} {K : PySem.W.Frag} {mg : Str → Option Value} {base : Heap}
theorem filter_strs (l : List Str) (f : Str → Bool) (b : V → Bool) (h : ∀ x, b (.str x) = f x) : ((l.map V.str).filter b).map (fun v => v) = (l.filter f).map V.str := by
  induction l with
  | nil => rfl
  | cons a l ih =>
    rw [List.map_cons, List.filter_cons, List.filter_cons, h]
    cases f a with
    | true => rw [if_pos rfl, if_pos rfl, List.map_cons, List.map_cons, ih]
    | false => rw [if_neg Bool.false_ne_true, if_neg Bool.false_ne_true, ih]
theorem len_ne (x : Str) : (!decide (V.str x = V.str "")) = !decide (x.length = 0) := by
  congr 1
  exact decide_eq_decide.mpr ⟨fun h => str_nil.mp (V.str.inj h), fun h => by rw [str_nil.mpr h]⟩
-- slots: 0 text, 1 word
theorem SC_words_in : FnScope ["text", "word"] ["text"] (defScope (top 24)) := ⟨rfl, rfl, rfl, by decide +kernel, rfl, by decide +kernel, by decide +kernel⟩
def sp_words_in (K : PySem.W.Frag) : Sp := fun vs H Q _ => ∃ z : Str, vs = [.str z] ∧ z.length ≤ 1000000 ∧ RetT K ((wordsIn z).map .str) H Q
theorem cl_words_in (T : Txt w K mg) : Cl P w K mg base CX0 1 "words_in" (sp_words_in K) := by
  obtain ⟨fd, F, hm⟩ := T.df 9 "words_in" 24 rfl
  refine cl0 F hm SC_words_in (fun vs H Q E h => by obtain ⟨z, rfl, hz, k⟩ := h; rfl) (fun _ _ _ _ _ _ us hl => match us, hl with | [_], _ => rfl) fun cdv A outer s H vs Q E hr h => ?_
  obtain ⟨z, rfl, hz, k⟩ := h
  refine ⟨_, (pss_one (ps_ret (pe_callTy call_tuple_of rfl T.f_tuple boot_tuple (pa_cons (pe_lc (own := [("word", 1)]) (g := gName 1) rfl SC_words_in.nd (pi_list (pe_split (pv 0) pe_str)) (blkOk_by (own := [("word", 1)]) (N := ["text", "word"]) (sc := defScope (top 24)) (by decide +kernel)) (fun _ _ _ _ _ => (pg_name (i := 1) SC_words_in.nd rfl (Or.inl rfl))) (fun _ _ _ _ _ => pts_one (pt_cmpR op_ne (pv 1) pe_str (nomark _))) (fun _ _ _ _ _ => (pv 1))) pa_nil)))), ?_⟩
  have hl : (Txt.split z bl).length ≤ z.length + 1 := by
    have h1 := wt_len (Txt.split z bl)
    have h2 := wt_split z 32
    exact Nat.le_trans h1 (Nat.le_of_eq h2)
  refine s_retS (es_tupN (el_is (el_lcN (fun v => match v with
      | .str x => !decide (x.length = 0)
      | _ => false) (fun v => v) (el_split (ev_var rfl) ev_c rfl hz) (by rw [List.length_map]; exact Nat.le_trans hl (Nat.le_trans (Nat.add_le_add_right hz 1) (by decide))) (fun _ => rfl) (fun x H0 hx e0 => ?_) (fun x H0 hx e0 _ => ev_var rfl)) (filter_strs _ _ _ fun _ => rfl))) fun p H1 e1 h1 => k p H1 e1 h1
  obtain ⟨y, _, rfl⟩ := List.mem_map.mp hx
  exact et_is (et_test (ev_op (ev_var rfl) ev_c (rv_ne rfl))) (len_ne y)
def pv1 : Part → V
  | .z => .non
  | .n i => .int i
  | .s x => .str x
  | .t _ => .non
-- slots: 0 word, 1 sign
theorem SC_number_in : FnScope ["word", "sign"] ["word"] (defScope (top 50)) := ⟨rfl, rfl, rfl, by decide +kernel, rfl, by decide +kernel, by decide +kernel⟩
def sp_number_in (K : PySem.W.Frag) : Sp := fun vs H Q _ => ∃ z : Str, vs = [.str z] ∧ z.length ≤ 1000000 ∧ RetV (pv1 (numberM z)) H Q
theorem s_zero : (⟨#[48]⟩ : Str) = "0" := by decide +kernel
theorem cl_number_in (T : Txt w K mg) : Cl P w K mg base CX0 1 "number_in" (sp_number_in K) := by
  obtain ⟨fd, F, hm⟩ := T.df 21 "number_in" 50 rfl
  refine cl0 F hm SC_number_in (fun vs H Q E h => by obtain ⟨z, rfl, hz, k⟩ := h; rfl) (fun _ _ _ _ _ _ us hl => match us, hl with | [_], _ => rfl) fun cdv A outer s H vs Q E hr h => ?_
  obtain ⟨z, rfl, hz, k⟩ := h
  refine ⟨_, (pss_cons (ps_if (PW.pt (pw_or (pt_cmpR op_eq (pv 0) pe_str (nomark _)) (pw_or (pt_not (pt_val (pe_callB (cr_all rfl) rfl T.f_all boot_all (pa_cons (pe_lc (own := [("sign", 1)]) (g := gName 1) (tt := tYes) rfl SC_number_in.nd (pi_str (pv 0)) (blkOk_by (own := [("sign", 1)]) (N := ["word", "sign"]) (sc := defScope (top 50)) (by decide +kernel)) (fun _ _ _ _ _ => (pg_name (i := 1) SC_number_in.nd rfl (Or.inl rfl))) (fun _ _ _ _ _ => pts_nil) (fun _ _ _ _ _ => (pe_cmpR op_in_sign (pv 1) (C8.pe_gc rfl T.g_FIGURES) rfl))) pa_nil)))) (pw_or1 (PW.pt (pw_and (pt_cmpR op_eq (pe_ix ix_str (pv 0) pe_int (fun _ _ => rfl)) pe_str (nomark _)) (pw_and1 (pt_cmpR op_ne (pv 0) pe_str (nomark _))))))))) (pss_one (ps_ret pe_non)) pss_nil)
      (pss_one (ps_ret (pe_ifExp (pt_cmpR op_le (pe_callB call_len_str rfl T.f_len boot_len (pa_cons (pv 0) pa_nil)) (C8.pe_gc rfl T.g_MOST_FIGURES) (nomark _)) (pe_callTy call_int_str rfl T.f_int boot_int (pa_cons (pv 0) pa_nil)) pe_non)))), ?_⟩
  have hall : Ev (tCB (rAll K) (tCons (tLc (iStr (tVar 0)) (gName 1) tYes (tOp (fun x y H Q => ∃ (c : Nat) (z : Str), x = .str ⟨#[c]⟩ ∧ y = .str z ∧ Q (.bl (decide (c ∈ z.cps.toList))) H) (tVar 1) (tC (.str sFig))) [1]) tNil)) (start ["word", "sign"] [.str z]) H (.bl (allIn sFig z)) :=
    ev_is (ev_all (bs := z.cps.toList.map fun c => decide (c ∈ sFig.cps.toList)) (el_is (el_str (fun c => .bl (decide (c ∈ sFig.cps.toList))) (ev_var rfl) hz (fun _ => rfl)
      fun c H0 _ e0 => ev_op (ev_var rfl) ev_c rv_sign) (by rw [List.map_map]; rfl))) (by rw [all_bl]; rfl)
  have fin : ∀ {v : V}, pv1 (numberM z) = v → ∀ {H1}, Ex H H1 → Q v H1 := fun {b} e {H1} e1 => by
    have := k H1 e1
    rwa [e] at this
  by_cases h0 : z.length = 0
  · refine q_when (b := true) (et_or1 (et_is (et_test (ev_op (ev_var rfl) ev_c (rv_eq rfl))) (by rw [str_nil.mpr h0]; decide))) (fun _ H1 e1 => s_ret ev_c fun H2 e2 => fin ?_ (e1.trans e2)) (fun h => by cases h)
    have : canon z = false := by
      unfold canon
      rw [h0]
      rfl
    unfold numberM
    rw [this]; rfl
  have hne : decide (V.str z = V.str "") = false := decide_eq_false fun e => h0 (str_nil.mp (V.str.inj e))
  have hc := hd_at h0
  have hcan : canon z = (allIn sFig z && (!decide (hd z = 48) || decide (z = "0"))) := by
    unfold canon
    rw [decide_eq_true (show 1 ≤ z.length by omega), Bool.true_and]
  refine q_when (b := !canon z) (et_is (et_or (et_test (ev_op (ev_var rfl) ev_c (rv_eq rfl))) fun _ => et_or (et_not (et_B hall)) fun _ => et_and (et_test (ev_op (ev_op (ev_var rfl) ev_c (rv_ixS hz hc)) ev_c (rv_eq rfl))) fun _ => et_test (ev_op (ev_var rfl) ev_c (rv_ne rfl))) ?_)
    (fun h H1 e1 => s_ret ev_c fun H2 e2 => fin ?_ (e1.trans e2)) (fun h H1 e1 => ?_)
  · rw [hne, hcan]
    have e1 : decide (V.str ⟨#[hd z]⟩ = V.str "0") = decide (hd z = 48) := decide_eq_decide.mpr ⟨fun h => by
        have h6 : (⟨#[hd z]⟩ : Str) = ⟨#[48]⟩ := by rw [s_zero]; exact V.str.inj h
        have h7 : (⟨#[hd z]⟩ : Str).cps.toList = (⟨#[48]⟩ : Str).cps.toList := congrArg (fun s : Str => s.cps.toList) h6
        exact List.head_eq_of_cons_eq h7, fun h => by rw [h, s_zero]⟩
    have e2 : decide (V.str z = V.str "0") = decide (z = "0") := decide_eq_decide.mpr ⟨fun h => V.str.inj h, fun h => by rw [h]⟩
    rw [e1, e2]
    cases allIn sFig z <;> cases decide (hd z = 48) <;> cases decide (z = ("0" : Str)) <;> rfl
  · have hn : canon z = false := bnt h
    unfold numberM
    rw [hn]; rfl
  have hn : canon z = true := bnf h
  have hd9 := dec_nat z.length 9
  cases h9 : decide (z.length ≤ 9) with
  | true =>
    have hnum : numberM z = .n (val z : Nat) := by
      unfold numberM
      rw [hn, h9]; rfl
    refine s_ret (ev_if (b := true) (et_is (et_test (ev_op (ev_cb (ea1 (ev_var rfl)) (rc_lenS hz)) ev_c rv_I0)) (by rw [← h9]; exact hd9)) (fun _ => ev_cb (ea1 (ev_var rfl)) (z := .int (val z : Nat)) fun H2 e2 Q q => ⟨z, _, rfl, number_read hn (of_decide_eq_true h9), Nat.le_trans (of_decide_eq_true h9) (by decide), q H2 (Ex.refl _)⟩) (fun h => by cases h)) fun H2 e2 => fin ?_ (e1.trans e2)
    rw [hnum]; rfl
  | false =>
    have hnum : numberM z = .z := by
      unfold numberM
      rw [hn, h9]; rfl
    refine s_ret (ev_if (b := false) (et_is (et_test (ev_op (ev_cb (ea1 (ev_var rfl)) (rc_lenS hz)) ev_c rv_I0)) (by rw [← h9]; exact hd9)) (fun h => by cases h) (fun _ => ev_c)) fun H2 e2 => fin ?_ (e1.trans e2)
    rw [hnum]; rfl
-- slots: 0 code, 1 word
theorem SC_part_in : FnScope ["code", "word"] ["code", "word"] (defScope (top 51)) := ⟨rfl, rfl, rfl, by decide +kernel, rfl, by decide +kernel, by decide +kernel⟩
def sp_part_in (K : PySem.W.Frag) : Sp := fun vs H Q _ => ∃ c z : Str, vs = [.str c, .str z] ∧ z.length ≤ 1000000 ∧ RetV (pv1 (partIn c z)) H Q
theorem cl_part_in (T : Txt w K mg) : Cl P w K mg base CX0 2 "part_in" (sp_part_in K) := by
  obtain ⟨fd, F, hm⟩ := T.df 22 "part_in" 51 rfl
  refine cl0 F hm SC_part_in (fun vs H Q E h => by obtain ⟨c, z, rfl, hz, k⟩ := h; rfl) (fun _ _ _ _ _ _ us hl => match us, hl with | [_, _], _ => rfl) fun cdv A outer s H vs Q E hr h => ?_
  obtain ⟨c, z, rfl, hz, k⟩ := h
  refine ⟨_, (pss_one (ps_ret (pe_ifExp (pt_cmpR (op_inKD T.d_NUMBERS) (pv 0) (C8.pe_gc rfl T.g_NUMBERS) (by rfl)) (pc (cl_number_in T) hr (by decide) rfl (pa_cons (pv 1) pa_nil)) (pv 1)))), ?_⟩
  refine s_ret (v := pv1 (partIn c z)) (ev_if (b := (numTab.lookup c).isSome) (et_test (ev_op (ev_var rfl) ev_c (rv_inKD T.p_NUMBERS))) (fun h => ev_callV (ea1 (ev_var rfl)) fun H1 e1 Q k => ⟨z, rfl, hz, ?_⟩) (fun h => ev_is (ev_var rfl) ?_)) fun H1 e1 => k H1 e1
  · have : partIn c z = numberM z := by unfold partIn; rw [h]; rfl
    rwa [this] at k
  · have : partIn c z = .s z := by unfold partIn; rw [h]; rfl
    rw [this]; rfl
/-! ### the checks by their names -/
theorem held_cl {k j : Nat} {x : Str} {sp : Sp} (c : Cl P w K mg base CX0 k x sp) (hm : mg x = some (.ref (He.ga K x))) (h : k ≤ j) : HeldD P w K mg base j (He.ga K x) (fun vs H Q E => sp (vs ++ []) H Q E) := by
  obtain ⟨f, fd, ps, F, hf, kp, b⟩ := c.ex
  rw [hm] at hf
  injection hf with hf
  injection hf with hf
  subst hf
  exact ⟨fd, ps, sp, [], [], F.mono h, kp, b, .nil, rfl⟩
theorem held_chk (T : Txt w K mg) {c y : Str} (h : chkNames.lookup c = some y) : ∃ sp m, chkTab.lookup c = some m ∧ HeldD P w K mg base 6 (He.ga K y) sp ∧ ∀ v p H Q, PartAt K H p v → RetV (.bl (m p)) H Q → sp [v] H Q (fun _ _ _ => False) := by
  have hm : (c, y) ∈ chkNames := by
    clear T
    have : ∀ l : List (Str × Str), l.lookup c = some y → (c, y) ∈ l := fun l => by
      induction l with
      | nil => intro h; cases h
      | cons a l ih =>
        intro h
        obtain ⟨k, v⟩ := a
        rw [List.lookup_cons] at h
        by_cases e : c == k
        · simp only [e] at h
          cases h
          rw [eq_of_beq e]
          exact List.mem_cons_self ..
        · have e' : (c == k) = false := by simpa using e
          simp only [e'] at h
          exact List.mem_cons_of_mem _ (ih h)
    exact this _ h
  simp only [chkNames, List.mem_cons, List.not_mem_nil, or_false, Prod.mk.injEq] at hm
  rcases hm with ⟨rfl, rfl⟩ | ⟨rfl, rfl⟩ | ⟨rfl, rfl⟩ | ⟨rfl, rfl⟩ | ⟨rfl, rfl⟩ | ⟨rfl, rfl⟩ | ⟨rfl, rfl⟩ | ⟨rfl, rfl⟩ | ⟨rfl, rfl⟩ | ⟨rfl, rfl⟩
  · exact ⟨_, onS nameM, rfl, held_cl (cl_is_name T) (T.gl 2 _ rfl rfl) (by decide), fun v p H Q hp k => by
      obtain ⟨t, ht⟩ := hp.ty
      exact ⟨v, t, rfl, ht, hp.gv, by rw [hp.on]; exact k⟩⟩
  · exact ⟨_, onS styleM, rfl, held_cl (cl_is_style T) (T.gl 10 _ rfl rfl) (by decide), fun v p H Q hp k => ⟨v, p, rfl, hp, k⟩⟩
  · exact ⟨_, _, rfl, held_cl (cl_is_align T) (T.gl 11 _ rfl rfl) (by decide), fun v p H Q hp k => ⟨v, p, rfl, hp, k⟩⟩
  · exact ⟨_, _, rfl, held_cl (cl_is_counted T) (T.gl 12 _ rfl rfl) (by decide), fun v p H Q hp k => ⟨v, p, rfl, hp, k⟩⟩
  · exact ⟨_, _, rfl, held_cl (cl_is_way T) (T.gl 13 _ rfl rfl) (by decide), fun v p H Q hp k => ⟨v, p, rfl, hp, k⟩⟩
  · exact ⟨_, _, rfl, held_cl (cl_is_sort T) (T.gl 14 _ rfl rfl) (by decide), fun v p H Q hp k => ⟨v, p, rfl, hp, k⟩⟩
  · exact ⟨_, _, rfl, held_cl (cl_is_kind T) (T.gl 15 _ rfl rfl) (by decide), fun v p H Q hp k => ⟨v, p, rfl, hp, k⟩⟩
  · obtain ⟨fd, F, hm, kp, ⟨ds, hd, b⟩, _⟩ := cl0_is_tokens (P := P) (base := base) T
    exact ⟨fun vs H Q E => sp_is_tokens K (vs ++ [.bl false]) H Q E, onT (tokensM false), rfl, ⟨fd, _, _, [.bl false], ds, F.mono (by decide), kp, b, hd, rfl⟩, fun v p H Q hp k => ⟨v, p, false, rfl, hp, k⟩⟩
  · exact ⟨_, _, rfl, held_cl (cl_is_plain T) (T.gl 7 _ rfl rfl) (by decide), fun v p H Q hp k => ⟨v, p, rfl, hp, k⟩⟩
  · exact ⟨_, _, rfl, held_cl (cl_is_bare T) (T.gl 8 _ rfl rfl) (by decide), fun v p H Q hp k => ⟨v, p, rfl, hp, k⟩⟩
-- slots: 0 code, 1 thing, 2 low, 3 high, 4 check
theorem SC_is_part : FnScope ["code", "thing", "low", "high", "check"] ["code", "thing"] (defScope (top 45)) := ⟨rfl, rfl, rfl, by decide +kernel, rfl, by decide +kernel, by decide +kernel⟩
def codeOk (c : Str) : Bool := (numTab.lookup c).isSome || (chkNames.lookup c).isSome
def sp_is_part (K : PySem.W.Frag) : Sp := fun vs H Q _ => ∃ (c : Str) (v : V) (p : Part), vs = [.str c, v] ∧ codeOk c = true ∧ PartAt K H p v ∧ RetV (.bl (partM c p)) H Q
theorem cl_is_part (T : Txt w K mg) : Cl P w K mg base CX0 7 "is_part" (sp_is_part K) := by
  obtain ⟨fd, F, hm⟩ := T.df 16 "is_part" 45 rfl
  refine cl0 F hm SC_is_part (fun vs H Q E h => by obtain ⟨c, v, p, rfl, hc, hp, k⟩ := h; rfl) (fun _ _ _ _ _ _ us hl => match us, hl with | [_, _], _ => rfl) fun cdv A outer s H vs Q E hr h => ?_
  obtain ⟨c, v, p, rfl, hc, hp, k⟩ := h
  refine ⟨_, (pss_cons (ps_if (pt_cmpR (op_inKD T.d_NUMBERS) (pv 0) (C8.pe_gc rfl T.g_NUMBERS) (by rfl)) (pss_cons (ps_asg (pe_ix ix_kdict (C8.pe_gc rfl T.g_NUMBERS) (pv 0) (fun _ _ => rfl)) (pg_tup (n := 2) rfl (pgs_cons (pg_name (i := 2) SC_is_part.nd rfl (Or.inl rfl)) (pgs_cons (pg_name (i := 3) SC_is_part.nd rfl (Or.inl rfl)) pgs_nil))))
        (pss_one (ps_ret (pc (cl_is_within T) hr (by decide) rfl (pa_cons (pv 1) (pa_cons (pv 2) (pa_cons (pv 3) pa_nil))))))) pss_nil)
      (pss_cons (ps_set (i := 4) SC_is_part.nd rfl (Or.inl rfl) (pe_ix ix_kdict (C8.pe_gc rfl T.g_CHECKS) (pv 0) (fun _ _ => rfl)))
      (pss_one (ps_ret (pe_callH (i := 4) (k := 6) (hr.mono (by decide)) rfl (Or.inl rfl) (pa_cons (pv 1) pa_nil)))))), ?_⟩
  have fin : ∀ {b : Bool}, partM c p = b → ∀ {H1}, Ex H H1 → Q (.bl b) H1 := fun {b} e {H1} e1 => by
    have := k H1 e1
    rwa [e] at this
  refine q_when (b := (numTab.lookup c).isSome) (et_test (ev_op (ev_var rfl) ev_c (rv_inKD T.p_NUMBERS))) (fun h H1 e1 => ?_) (fun h H1 e1 => ?_)
  · obtain ⟨r, hr⟩ := Option.isSome_iff_exists.mp h
    obtain ⟨_, eu, a, rfl, hq⟩ := kd_at T.p_NUMBERS hr
    obtain ⟨ty, hty⟩ := hp.ty
    refine (ev_op ev_c (ev_var rfl) (rv_ixU (v := .ref a) T.d_NUMBERS eu rfl)) H1 (Ex.refl _) _ fun H2 e2 => sq_g_pair (hq H2) (s_ret (ev_callV (ea_cons (ev_var rfl) (ea2 (ev_var rfl) (ev_var rfl))) fun H3 e3 Q k => ⟨v, ty, r.1, r.2, rfl, hty.mono ((e1.trans e2).trans e3), k⟩) fun H3 e3 => fin ?_ ((e1.trans e2).trans e3))
    unfold partM
    rw [hr]
    cases hp <;> rfl
  · have hn : numTab.lookup c = none := by
      cases e : numTab.lookup c with
      | none => rfl
      | some _ => rw [e] at h; cases h
    have hc2 : (chkNames.lookup c).isSome = true := by
      unfold codeOk at hc
      rw [hn] at hc
      exact hc
    obtain ⟨y, hy⟩ := Option.isSome_iff_exists.mp hc2
    obtain ⟨sp, m, hm, hh, him⟩ := held_chk (P := P) (base := base) T hy
    obtain ⟨_, eu, rfl⟩ := kd_at T.p_CHECKS hy
    refine q_asg (ev_op ev_c (ev_var rfl) (rv_ixU (v := .ref (He.ga K y)) T.d_CHECKS eu rfl)) fun H2 e2 => ?_
    refine s_ret (v := .bl (m p)) (fun H3 e3 Q q => ⟨He.ga K y, sp, rfl, hh, ea1 (ev_var (v := v) rfl) H3 e3 _ fun H4 e4 => him v p H4 Q (hp.mono (((e1.trans e2).trans e3).trans e4)) fun H5 e5 => q H5 (Ex.trans e4 e5)⟩) fun H3 e3 => fin ?_ ((e1.trans e2).trans e3)
    unfold partM
    rw [hn, hm]
end
end Pk
set_option Elab.async false
set_option linter.all false
set_option maxRecDepth 100000
set_option maxHeartbeats 4000000
namespace Pk
open PySem PySem.Spec PyProof.Rows L2 Evl
/-! ### rows as data -/
def dpart : Part → PyData
  | .z => .none
  | .n i => .int i
  | .s x => .str x
  | .t xs => .tuple (xs.map .str)
def drow (r : Row) : PyData := .tuple (r.map dpart)
section
variable {K : PySem.W.Frag} {H H' : Hp}
mutual
theorem Dp.mono (e : Ex H H') : ∀ {v : V} {d : PyData}, Dp K H v d → Dp K H' v d
  | _, _, .non => .non
  | _, _, .bl b => .bl b
  | _, _, .int i => .int i
  | _, _, .str x => .str x
  | _, _, .lst h hs => .lst (ex_l e h) (DpAll.mono e hs)
  | _, _, .tup h hs => .tup (ex_t e h) (DpAll.mono e hs)
theorem DpAll.mono (e : Ex H H') : ∀ {vs : List V} {ds : List PyData}, DpAll K H vs ds → DpAll K H' vs ds
  | _, _, .nil => .nil
  | _, _, .cons h hs => .cons (Dp.mono e h) (DpAll.mono e hs)
end
theorem dp_strs : ∀ xs : List Str, DpAll K H (xs.map V.str) (xs.map PyData.str)
  | [] => .nil
  | x :: r => .cons (.str x) (dp_strs r)
theorem dp_part {p : Part} {v : V} (h : PartAt K H p v) : Dp K H v (dpart p) := by
  cases h with
  | z => exact .non
  | n i => exact .int i
  | s h => exact .str _
  | t h hx hl => exact .tup h (dp_strs _)
theorem dp_parts : ∀ {r : Row} {vs : List V}, Paired (PartAt K H) r vs → DpAll K H vs (r.map dpart)
  | _, _, .nil => .nil
  | _, _, .cons h t => .cons (dp_part h) (dp_parts t)
/-- the row at a -/
def RowAt (K : PySem.W.Frag) (H : Hp) (r : Row) (a : Addr) : Prop := ∃ vs, SqT K H a vs ∧ Paired (PartAt K H) r vs
theorem parts_mono (e : Ex H H') : ∀ {r : Row} {vs : List V}, Paired (PartAt K H) r vs → Paired (PartAt K H') r vs
  | _, _, .nil => .nil
  | _, _, .cons h t => .cons (h.mono e) (parts_mono e t)
theorem RowAt.mono {r : Row} {a : Addr} (e : Ex H H') (h : RowAt K H r a) : RowAt K H' r a := by
  obtain ⟨vs, h1, h2⟩ := h
  exact ⟨vs, ex_t e h1, parts_mono e h2⟩
theorem RowAt.dp {r : Row} {a : Addr} (h : RowAt K H r a) : Dp K H (.ref a) (drow r) := by
  obtain ⟨vs, h1, h2⟩ := h
  exact .tup h1 (dp_parts h2)
end
theorem sh_strs : ∀ xs : List Str, (∀ x ∈ xs, PySem.PyData.strOk x = true) → PyData.canLayAll0 (xs.map PyData.str) = true ∧ PyData.depthAll (xs.map PyData.str) = 0
  | [], _ => ⟨rfl, rfl⟩
  | x :: r, h => by
    obtain ⟨h1, h2⟩ := sh_strs r fun y hy => h y (List.mem_cons_of_mem _ hy)
    have h0 := h x (List.mem_cons_self ..)
    simp [PyData.canLayAll0, PyData.canLay0, PyData.depthAll, PyData.depth, h0, h1, h2]
def okPart : Part → Prop
  | .s x => PySem.PyData.strOk x = true
  | .t xs => ∀ x ∈ xs, PySem.PyData.strOk x = true
  | _ => True
theorem PartAt.ok {K : PySem.W.Frag} {H : Hp} {p : Part} {v : V} (h : PartAt K H p v) : okPart p := by
  cases h with
  | s h => exact h.2
  | t h hx hl => exact fun x hx' => (hx x hx').2
  | _ => trivial
theorem sh_part {p : Part} (h : okPart p) : PyData.canLay0 (dpart p) = true ∧ PyData.depth (dpart p) ≤ 1 := by
  cases p with
  | z => exact ⟨rfl, by simp [dpart, PyData.depth]⟩
  | n i => exact ⟨rfl, by simp [dpart, PyData.depth]⟩
  | s x => exact ⟨h, by simp [dpart, PyData.depth]⟩
  | t xs =>
    obtain ⟨h1, h2⟩ := sh_strs xs h
    exact ⟨by simp [dpart, PyData.canLay0, h1], by simp [dpart, PyData.depth, h2]⟩
theorem sh_parts : ∀ {r : Row}, (∀ p ∈ r, okPart p) → PyData.canLayAll0 (r.map dpart) = true ∧ PyData.depthAll (r.map dpart) ≤ 1
  | [], _ => ⟨rfl, by simp [PyData.depthAll]⟩
  | p :: r, h => by
    obtain ⟨h1, h2⟩ := sh_parts (r := r) fun q hq => h q (List.mem_cons_of_mem _ hq)
    obtain ⟨h3, h4⟩ := sh_part (h p (List.mem_cons_self ..))
    refine ⟨by simp [PyData.canLayAll0, h1, h3], ?_⟩
    simp only [List.map_cons, PyData.depthAll]
    omega
theorem sh_row {r : Row} (h : ∀ p ∈ r, okPart p) : SeqAt.shaped (drow r) = true := by
  obtain ⟨h1, h2⟩ := sh_parts h
  have h3 : PyData.depth (drow r) ≤ 64 := by
    simp only [drow, PyData.depth]
    omega
  unfold SeqAt.shaped
  rw [decide_eq_true h3, Bool.and_true]
  simp only [drow, PyData.canLay0, h1]
theorem eqv_strs : ∀ xs ys : List Str, PyData.eqvAll (xs.map PyData.str) (ys.map PyData.str) = decide (xs = ys)
  | [], [] => by simp [PyData.eqvAll]
  | [], _ :: _ => by simp [PyData.eqvAll]
  | _ :: _, [] => by simp [PyData.eqvAll]
  | x :: xs, y :: ys => by
    simp only [List.map_cons, PyData.eqvAll, PyData.eqv, eqv_strs xs ys]
    by_cases h : x = y
    · subst h; simp
    · simp [h]
theorem eqv_part (p q : Part) : PyData.eqv (dpart p) (dpart q) = decide (p = q) := by
  cases p <;> cases q <;> simp [dpart, PyData.eqv, eqv_strs] <;> rfl
theorem eqv_parts : ∀ r t : Row, PyData.eqvAll (r.map dpart) (t.map dpart) = decide (r = t)
  | [], [] => by simp [PyData.eqvAll]
  | [], _ :: _ => by simp [PyData.eqvAll]
  | _ :: _, [] => by simp [PyData.eqvAll]
  | x :: xs, y :: ys => by
    simp only [List.map_cons, PyData.eqvAll, eqv_part, eqv_parts xs ys]
    by_cases h : x = y
    · subst h; simp
    · simp [h]
theorem eqv_rows (r t : Row) : PyData.eqv (drow r) (drow t) = decide (r = t) := eqv_parts r t
section
variable {K : PySem.W.Frag} {σ : L2.St} {H H' : Hp} {ta tb tc te tx : TE} {t u : TT} {x y z v : V} {D : Ends} {tu tw tz : TS} {g : TG}
theorem parts_ok : ∀ {r : Row} {vs : List V}, Paired (PartAt K H) r vs → ∀ p ∈ r, okPart p
  | _, _, .nil, _, hp => by cases hp
  | _, _, .cons h t, p, hp => by
    rcases List.mem_cons.mp hp with rfl | hp
    · exact h.ok
    · exact parts_ok t p hp
theorem paired_right {α β : Type} {F : α → β → Prop} : ∀ {l₁ : List α} {l₂ : List β}, Paired F l₁ l₂ → ∀ {i : Nat} {b : β}, l₂[i]? = some b → ∃ a, l₁[i]? = some a ∧ F a b
  | _, _, .nil, _, _, h => by cases h
  | _, _, .cons h t, i, b, hb => by
    cases i with
    | zero => cases hb; exact ⟨_, rfl, h⟩
    | succ i => exact paired_right t (i := i) hb
theorem giv_zip (form : List Str) (ps : List Part) (n : Nat) (hn : n = (form.zip ps).length) (F : Str → Part → V) (d : V) :
    giv n (fun m => if true = true then some (match form[m]?, ps[m]? with
      | some c, some p => F c p
      | _, _ => d) else none) = (form.zip ps).map fun q => F q.1 q.2 := by
  subst hn
  rw [giv_map (form.zip ps) (fun q => some (F q.1 q.2)) _ fun i x hx => ?_]
  · induction form.zip ps with
    | nil => rfl
    | cons a l ih => simp
  · obtain ⟨c, p⟩ := x
    rw [List.getElem?_zip_eq_some] at hx
    rw [if_pos rfl, hx.1, hx.2]
theorem RowAt.ok {r : Row} {a : Addr} (h : RowAt K H r a) : ∀ p ∈ r, okPart p := by
  obtain ⟨vs, _, h2⟩ := h
  exact parts_ok h2
theorem rv_eqD {d e : PyData} (hx : Dp K H x d) (hy : Dp K H y e) (sd : SeqAt.shaped d = true) (se : SeqAt.shaped e = true) : RV (rEqD K) x y H (.bl (PyData.eqv d e)) := fun H1 e1 _ q => ⟨d, e, Dp.mono e1 hx, Dp.mono e1 hy, sd, se, q H1 (Ex.refl _)⟩
theorem rv_neD {d e : PyData} (hx : Dp K H x d) (hy : Dp K H y e) (sd : SeqAt.shaped d = true) (se : SeqAt.shaped e = true) : RV (rNeD K) x y H (.bl (!PyData.eqv d e)) := fun H1 e1 _ q => ⟨d, e, Dp.mono e1 hx, Dp.mono e1 hy, sd, se, q H1 (Ex.refl _)⟩
theorem sh_nil : SeqAt.shaped (.tuple []) = true := by decide
theorem eqv_nil (ds : List PyData) : PyData.eqv (.tuple ds) (.tuple []) = ds.isEmpty := by cases ds <;> simp [PyData.eqv, PyData.eqvAll]
/-- x == () -/
theorem ev_eq0 {ds : List PyData} (ha : Ev ta σ H x) (hx : Dp K H x (.tuple ds)) (sd : SeqAt.shaped (.tuple ds) = true) : Ev (tOp (rEqD K) ta (tTup tNil)) σ H (.bl ds.isEmpty) :=
  ev_is (ev_opU ha (eu_tup (vs := []) ea_nil (Nat.zero_le _)) fun p H1 hp e1 => rv_eqD (Dp.mono e1 hx) (.tup (st_of hp) .nil) sd sh_nil) (by rw [eqv_nil])
theorem ev_ne0 {ds : List PyData} (ha : Ev ta σ H x) (hx : Dp K H x (.tuple ds)) (sd : SeqAt.shaped (.tuple ds) = true) : Ev (tOp (rNeD K) ta (tTup tNil)) σ H (.bl (!ds.isEmpty)) :=
  ev_is (ev_opU ha (eu_tup (vs := []) ea_nil (Nat.zero_le _)) fun p H1 hp e1 => rv_neD (Dp.mono e1 hx) (.tup (st_of hp) .nil) sd sh_nil) (by rw [eqv_nil])
theorem atI_0 {xs : List V} {x : V} : atI (x :: xs) 0 = some x := by
  show (ixN (x :: xs).length 0).bind (fun j => (x :: xs)[j]?) = _
  have e2 : ixN (x :: xs).length 0 = some 0 := by
    unfold ixN
    rw [if_pos (by decide), if_pos (by simp only [List.length_cons]; omega)]
    rfl
  rw [e2]
  rfl
theorem atI_last {xs : List V} {x : V} : atI (xs ++ [x]) (-1) = some x := by
  show (ixN (xs ++ [x]).length (-1)).bind (fun j => (xs ++ [x])[j]?) = _
  have e2 : ixN (xs ++ [x]).length (-1) = some xs.length := by
    unfold ixN
    rw [if_neg (by decide), if_pos (by simp only [List.length_append, List.length_singleton]; omega)]
    congr 1
    simp only [List.length_append, List.length_singleton]
    omega
  rw [e2]
  simp
end
/-- what FORMS holds -/
theorem form_codes : ∀ w form, formTab.lookup w = some form → (∀ c ∈ form, codeOk c = true ∧ PySem.PyData.strOk c = true) ∧ form.length ≤ 5 := by
  intro w form h
  have hm : (w, form) ∈ formTab := by
    have : ∀ l : List (Str × List Str), l.lookup w = some form → (w, form) ∈ l := fun l => by
      induction l with
      | nil => intro h; cases h
      | cons a l ih =>
        intro h
        obtain ⟨k, v⟩ := a
        rw [List.lookup_cons] at h
        by_cases e : w == k
        · simp only [e] at h
          cases h
          rw [eq_of_beq e]
          exact List.mem_cons_self ..
        · have e' : (w == k) = false := by simpa using e
          simp only [e'] at h
          exact List.mem_cons_of_mem _ (ih h)
    exact this _ h
  have hall : formTab.all (fun p => (p.2.all fun c => codeOk c && PySem.PyData.strOk c) && decide (p.2.length ≤ 5)) = true := by decide +kernel
  have h2 := List.all_eq_true.mp hall _ hm
  simp only [Bool.and_eq_true, List.all_eq_true, decide_eq_true_eq] at h2
  exact h2
theorem zip_all : ∀ (form : List Str) (ps : List Part), ps.length = form.length → ((form.zip ps).map fun q => partM q.1 q.2).all id = partsM form ps
  | [], [], _ => rfl
  | c :: cs, p :: ps, h => by
    have ih := zip_all cs ps (by simpa using h)
    simp only [List.zip_cons_cons, List.map_cons, List.all_cons, id, partsM, ih]
  | [], _ :: _, h => by simp at h
  | _ :: _, [], h => by simp at h
section
variable {P : Program} {w : World} {K : PySem.W.Frag} {mg : Str → Option Value} {base : Heap}
-- slots: 0 thing, 1 word, 2 parts, 3 form, 4 code, 5 part, 6 kind, 7 way, 8 within
theorem SC_is_row : FnScope ["thing", "word", "parts", "form", "code", "part", "kind", "way", "within"] ["thing"] (defScope (top 46)) := ⟨rfl, rfl, rfl, by decide +kernel, rfl, by decide +kernel, by decide +kernel⟩
def sp_is_row (K : PySem.W.Frag) : Sp := fun vs H Q _ => ∃ (a : Addr) (w : Str) (ps : List Part) (form : List Str), vs = [.ref a] ∧ RowAt K H (.s w :: ps) a ∧ formTab.lookup w = some form ∧ ps.length = form.length ∧ RetV (.bl (rowM (.s w :: ps))) H Q
theorem cl_is_row (T : Txt w K mg) : Cl P w K mg base CX0 8 "is_row" (sp_is_row K) := by
  obtain ⟨fd, F, hm⟩ := T.df 17 "is_row" 46 rfl
  refine cl0 F hm SC_is_row (fun vs H Q E h => by obtain ⟨a, w, ps, form, rfl, hr0, hf, hl, k⟩ := h; rfl) (fun _ _ _ _ _ _ us hl => match us, hl with | [_], _ => rfl) fun cdv A outer s H vs Q E hr h => ?_
  obtain ⟨a, w, ps, form, rfl, hr0, hf, hl, k⟩ := h
  refine ⟨_, (pss_cons (ps_if (PW.pt (pw_or (pt_not (pt_val (pe_callB call_is rfl T.f_isinstance boot_isinstance (pa_cons (pv 0) (pa_cons (pe_ty rfl T.f_tuple boot_tuple) pa_nil))))) (pw_or (pt_cmpR (op_eqD hr.units) (pv 0) (pe_tup pa_nil) (nomark _)) (pw_or (pt_not (pt_val (pe_callB call_is rfl T.f_isinstance boot_isinstance (pa_cons (pe_ix ix_tup (pv 0) pe_int (fun _ _ => rfl)) (pa_cons (pe_ty rfl T.f_str boot_str) pa_nil))))) (pw_or1 (pt_cmpR (op_ninKD T.d_FORMS) (pe_ix ix_tup (pv 0) pe_int (fun _ _ => rfl)) (C8.pe_gc rfl T.g_FORMS) (by rfl))))))) (pss_one (ps_ret pe_bl)) pss_nil)
      (pss_cons (ps_asg (pv 0) (pg_star (m := 1) rfl (pgs_cons (pg_name (i := 1) SC_is_row.nd rfl (Or.inl rfl)) (pgs_cons (pg_name (i := 2) SC_is_row.nd rfl (Or.inl rfl)) pgs_nil))))
      (pss_cons (ps_set (i := 3) SC_is_row.nd rfl (Or.inl rfl) (pe_ix ix_kdict (C8.pe_gc rfl T.g_FORMS) (pv 1) (fun _ _ => rfl)))
      (pss_cons (ps_if (PW.pt (pw_or (pt_cmpR op_ne (pe_callB call_len_seq rfl T.f_len boot_len (pa_cons (pv 2) pa_nil)) (pe_callB call_len_seq rfl T.f_len boot_len (pa_cons (pv 3) pa_nil)) (nomark _)) (pw_or1 (pt_not (pt_val (pe_callB (cr_all rfl) rfl T.f_all boot_all (pa_cons (pe_lc (own := [("code", 4), ("part", 5)]) (tt := tYes) rfl SC_is_row.nd (pi_zipTL rfl T.f_zip (pa_cons (pv 3) (pa_cons (pv 2) pa_nil))) (blkOk_by (own := [("code", 4), ("part", 5)]) (N := ["thing", "word", "parts", "form", "code", "part", "kind", "way", "within"]) (sc := defScope (top 46)) (by decide +kernel)) (fun _ _ _ _ _ => (pg_tupK (K := K) (n := 2) rfl rfl (pgs_cons (pg_name (i := 4) SC_is_row.nd rfl (Or.inl rfl)) (pgs_cons (pg_name (i := 5) SC_is_row.nd rfl (Or.inl rfl)) pgs_nil)))) (fun _ _ _ _ _ => pts_nil) (fun _ _ _ _ _ => (pc (cl_is_part T) hr (by decide) rfl (pa_cons (pv 4) (pa_cons (pv 5) pa_nil))))) pa_nil))))))) (pss_one (ps_ret pe_bl)) pss_nil)
      (pss_cons (ps_if (pt_cmpR op_ne (pv 1) pe_str (nomark _)) (pss_one (ps_ret pe_bl)) pss_nil)
      (pss_cons (ps_asg (pv 2) (pg_unl (n := 3) rfl (pgs_cons (pg_name (i := 6) SC_is_row.nd rfl (Or.inl rfl)) (pgs_cons (pg_name (i := 7) SC_is_row.nd rfl (Or.inl rfl)) (pgs_cons (pg_name (i := 8) SC_is_row.nd rfl (Or.inl rfl)) pgs_nil)))))
      (pss_one (ps_ret (pe_ifExp (pt_cmpR op_eq (pv 6) pe_str (nomark _)) (pe_cmpR op_gt (pv 8) pe_int (nomark _)) (pe_or (pe_cmpR op_ne (pv 6) pe_str (nomark _)) (pe_one (pe_cmpR op_eq (pv 8) pe_int (nomark _))))))))))))), ?_⟩
  have hr1 := hr0
  obtain ⟨vs, hq, hp⟩ := hr0
  cases hp with
  | cons h0 hp =>
    rename_i v0 vs
    cases h0 with
    | s hw =>
      have fin : ∀ {b : Bool}, rowM (.s w :: ps) = b → ∀ {H1}, Ex H H1 → Q (.bl b) H1 := fun {b} e {H1} e1 => by
        have := k H1 e1
        rwa [e] at this
      have hrow : rowM (.s w :: ps) = (partsM form ps && cntM w ps) := by
        simp only [rowM, hf]
      have hlv : vs.length = ps.length := (Paired.length hp).symm
      obtain ⟨hcodes, hfl⟩ := form_codes w form hf
      obtain ⟨_, eu, f, rfl, hF⟩ := kd_at T.p_FORMS hf
      refine q_when (b := false) (et_is (et_or (et_not (et_B (ev_isi (ev_var rfl) (.tup hq) rfl))) fun _ => et_or (et_test (ev_eq0 (ds := (Part.s w :: ps).map dpart) (ev_var rfl) hr1.dp (sh_row hr1.ok))) fun _ => et_or (et_not (et_B (ev_isi (ev_op (ev_var rfl) ev_c (rv_ixT hq atI_0)) (.str w) rfl))) fun _ =>
        et_test (ev_op (ev_op (ev_var rfl) ev_c (rv_ixT hq atI_0)) ev_c (rv_ninKD T.p_FORMS))) (by rw [hf]; rfl)) (fun h => by cases h) (fun _ H1 e1 => ?_)
      refine q_asgG (ev_var rfl) fun H2 e2 => ⟨a, _, rfl, ex_t (e1.trans e2) hq, by simp only [List.length_cons]; omega, fun Dl hD => ⟨.str w, [.ref Dl], rfl, .ref Dl, [], rfl, rfl, ?_⟩⟩
      have eD : Ex H2 (upd H2 Dl (.lst vs)) := Ex.new hD
      have E2 := (e1.trans e2).trans eD
      have hL : SqL K (upd H2 Dl (.lst vs)) Dl vs := sq_of upd_same
      refine q_asg (ev_op ev_c (ev_var rfl) (rv_ixU (v := .ref f) T.d_FORMS eu rfl)) fun H3 e3 => ?_
      have E3 := E2.trans e3
      have hlen : ((vs.length : Int)) = ((form.map V.str).length : Int) := by rw [List.length_map, hlv, hl]
      refine q_when (b := !partsM form ps) (et_is (et_or (et_is (et_test (ev_op (ev_cb (ea1 (ev_var rfl)) (rc_lenL (ex_l e3 hL))) (ev_cb (ea1 (ev_var rfl)) (rc_lenT (hF H3))) (rv_ne rfl))) (b := false) (by rw [hlen]; simp)) fun _ =>
        et_not (et_B (ev_all (bs := (form.zip ps).map fun q => partM q.1 q.2) (el_is (el_lcP (walk_zipTL (K := K) (a := f) (b := Dl) (xs := form.map V.str) (ys := vs) rfl) (by simp only [List.length_map]; exact Nat.le_trans (Nat.min_le_left _ _) (Nat.le_trans hfl (by decide))) (fun _ => true) (fun m => match form[m]?, ps[m]? with
            | some c, some p => .bl (partM c p)
            | _, _ => .bl false) (fun H4 e4 R hR => ea2 (ev_var rfl) (ev_var rfl) H4 (Ex.refl _) _ fun H5 e5 => ⟨f, Dl, _, vs, rfl, hF H5, ex_l ((e3.trans e4).trans e5) hL, hR H5 e5⟩) (fun H4 e4 => ⟨hF H4, ex_l (e3.trans e4) hL⟩) (fun _ _ => rfl) (fun _ _ _ _ _ _ _ _ => et_yes) (fun m x y H4 hm e4 hx hy _ => ?_)) ?_)))) ?_) (fun h H4 e4 => s_ret ev_c fun H5 e5 => fin ?_ ((E3.trans e4).trans e5)) (fun h H4 e4 => ?_)
      · obtain ⟨c, hc, rfl⟩ := map_at hx
        obtain ⟨p, hpm, hpp⟩ := paired_right hp hy
        rw [hc, hpm]
        exact ev_callV (ea2 (ev_var rfl) (ev_var rfl)) fun H5 e5 Q k => ⟨c, y, p, rfl, (hcodes c (List.mem_of_getElem? hc)).1, hpp.mono ((E3.trans e4).trans e5), k⟩
      · rw [giv_zip form ps _ (by rw [List.length_zip, List.length_map, hlv]) (fun c p => .bl (partM c p)) (.bl false), List.map_map]; rfl
      · rw [zip_all form ps hl]; rfl
      · rw [hrow, show partsM form ps = false from bnt h]; rfl
      have hpm : partsM form ps = true := bnf h
      rw [hpm, Bool.true_and] at hrow
      have E4 := E3.trans e4
      refine q_when (b := !decide (w = "counter")) (et_is (et_test (ev_op (ev_var rfl) ev_c (rv_ne rfl))) (by
        congr 1
        exact decide_eq_decide.mpr ⟨fun h => V.str.inj h, fun h => by rw [h]⟩)) (fun h H5 e5 => s_ret ev_c fun H6 e6 => fin ?_ ((E4.trans e5).trans e6)) (fun h H5 e5 => ?_)
      · have h2 : ¬ w = "counter" := of_decide_eq_false (bnt h)
        rw [hrow]
        unfold cntM
        rw [if_neg h2]
      have h2 : w = "counter" := of_decide_eq_true (bnf h)
      subst h2
      have hform : form = (["counted", "way", "3"] : List Str) := by
        have h3 : formTab.lookup ("counter" : Str) = some (["counted", "way", "3"] : List Str) := by decide +kernel
        rw [h3] at hf
        injection hf with hf
        exact hf.symm
      subst hform
      match ps, vs, hp, hpm, hl with
      | [p1, p2, p3], [v1, v2, v3], .cons hp1 (.cons hp2 (.cons hp3 .nil)), hpm, _ =>
        have hk : ∃ k, p1 = .s k := by
          cases p1 with
          | s _ => exact ⟨_, rfl⟩
          | _ => exact absurd hpm (by show ¬ ((false && _) = true); intro h; cases h)
        obtain ⟨kd, rfl⟩ := hk
        have hi : ∃ i, p3 = .n i := by
          cases p3 with
          | n _ => exact ⟨_, rfl⟩
          | _ => exact absurd hpm (by show ¬ ((_ && (_ && (false && _))) = true); simp)
        obtain ⟨i, rfl⟩ := hi
        cases hp1
        cases hp3
        refine q_asgG (ev_var rfl) fun H6 e6 => ⟨Dl, _, rfl, ex_l (((e3.trans e4).trans e5).trans e6) hL, rfl, .str kd, _, rfl, v2, _, rfl, .int i, _, rfl, rfl, ?_⟩
        have E6 := (E4.trans e5).trans e6
        have ek : decide (V.str kd = V.str "head") = decide (kd = "head") := decide_eq_decide.mpr ⟨fun h => V.str.inj h, fun h => by rw [h]⟩
        have ek2 : decide (V.str kd = V.str "item") = decide (kd = "item") := decide_eq_decide.mpr ⟨fun h => V.str.inj h, fun h => by rw [h]⟩
        have ei : decide (V.int i = V.int 0) = decide (i = 0) := decide_eq_decide.mpr ⟨fun h => V.int.inj h, fun h => by rw [h]⟩
        refine s_ret (ev_if (b := decide (kd = "head")) (v := .bl (cntM "counter" [.s kd, p2, .n i])) (et_is (et_test (ev_op (ev_var rfl) ev_c (rv_eq rfl))) ek) (fun h => ev_is (ev_op (ev_var rfl) ev_c rv_I0) ?_) (fun h => ev_is (ev_orV (ev_op (ev_var rfl) ev_c (rv_ne rfl)) fun _ => ev_op (ev_var rfl) ev_c (rv_eq rfl)) ?_)) fun H7 e7 => fin hrow (E6.trans e7)
        · have h3 : kd = "head" := of_decide_eq_true h
          subst h3
          rfl
        · have h3 : ¬ kd = "head" := of_decide_eq_false h
          rw [ek2, ei]
          unfold cntM
          simp only [if_true, if_neg h3]
end
end Pk
set_option Elab.async false
set_option linter.all false
set_option maxRecDepth 100000
set_option maxHeartbeats 4000000
namespace Pk
open PySem
/-! what a row that stands looks like -/
inductive Flat : Part → Prop where
  | n (i : Int) (h : 0 ≤ i ∧ i ≤ 6) : Flat (.n i)
  | s (x : Str) : Flat (.s x)
def pw : Part → Str
  | .n i => Str.ofString (toString i)
  | .s x => x
  | _ => ""
theorem Flat.words {p : Part} (h : Flat p) : partWords p = [pw p] := by cases h <;> rfl
theorem lookup_mem {α : Type} {w : Str} {v : α} : ∀ {l : List (Str × α)}, l.lookup w = some v → (w, v) ∈ l
  | [], h => by cases h
  | (k, u) :: l, h => by
    rw [List.lookup_cons] at h
    by_cases e : w == k
    · simp only [e] at h
      cases h
      rw [eq_of_beq e]
      exact List.mem_cons_self ..
    · have e' : (w == k) = false := by simpa using e
      simp only [e'] at h
      exact List.mem_cons_of_mem _ (lookup_mem h)
theorem part_num {c : Str} {r : Int × Int} {p : Part} (h : numTab.lookup c = some r) (hp : partM c p = true) : Flat p := by
  have hall : numTab.all (fun q => decide (0 ≤ q.2.1) && decide (q.2.2 ≤ 6)) = true := by decide +kernel
  have h2 := List.all_eq_true.mp hall _ (lookup_mem h)
  simp only [Bool.and_eq_true, decide_eq_true_eq] at h2
  simp only [partM, h] at hp
  cases p with
  | n i =>
    simp only [onN, Bool.and_eq_true, decide_eq_true_eq] at hp
    exact .n i ⟨Int.le_trans h2.1 hp.1, Int.le_trans hp.2 h2.2⟩
  | _ => cases hp
def flatC (c : Str) : Bool := !decide (c ∈ tokened)
theorem part_flat {c : Str} {p : Part} (h : flatC c = true) (hp : partM c p = true) : Flat p := by
  cases hn : numTab.lookup c with
  | some r => exact part_num hn hp
  | none =>
    cases hc : chkTab.lookup c with
    | none =>
      simp only [partM, hn, hc] at hp
      cases hp
    | some f =>
      have hm := lookup_mem hc
      have hp2 : f p = true := by
        simp only [partM, hn, hc] at hp
        exact hp
      have hS : ∀ g : Str → Bool, onS g p = true → Flat p := fun g hg => by
        cases p with
        | s x => exact .s x
        | _ => cases hg
      have hno : c ∉ tokened := by
        unfold flatC at h
        intro q
        rw [decide_eq_true q] at h
        cases h
      simp only [chkTab, List.mem_cons, List.not_mem_nil, or_false, Prod.mk.injEq] at hm
      rcases hm with ⟨rfl, rfl⟩ | ⟨rfl, rfl⟩ | ⟨rfl, rfl⟩ | ⟨rfl, rfl⟩ | ⟨rfl, rfl⟩ | ⟨rfl, rfl⟩ | ⟨rfl, rfl⟩ | ⟨rfl, rfl⟩ | ⟨rfl, rfl⟩ | ⟨rfl, rfl⟩
      · exact hS _ hp2
      · exact hS _ hp2
      · exact hS _ hp2
      · exact hS _ hp2
      · exact hS _ hp2
      · exact hS _ hp2
      · exact hS _ hp2
      · exact absurd (by decide) hno
      · exact absurd (by decide) hno
      · exact absurd (by decide) hno
theorem part_tok {c : Str} {p : Part} (h : c ∈ tokened) (hp : partM c p = true) : ∃ xs, p = .t xs ∧ tokM xs = true := by
  have hT : ∀ g : List Str → Bool, (∀ xs, g xs = true → tokM xs = true) → onT g p = true → ∃ xs, p = .t xs ∧ tokM xs = true := fun g hg h => by
    cases p with
    | t xs => exact ⟨xs, rfl, hg xs h⟩
    | _ => cases h
  have ht : ∀ b xs, tokensM b xs = true → tokM xs = true := fun b xs h => by
    unfold tokensM at h
    cases e : tokM xs with
    | true => rfl
    | false => rw [e] at h; cases h
  have hb : ∀ xs, bareM xs = true → tokM xs = true := fun xs h => by
    unfold bareM at h
    cases e : tokensM true xs with
    | true => exact ht _ _ e
    | false => rw [e] at h; cases h
  simp only [tokened, List.mem_cons, List.not_mem_nil, or_false] at h
  rcases h with rfl | rfl | rfl
  · exact hT _ (ht false) (by
      have e1 : numTab.lookup ("tokens" : Str) = none := by decide +kernel
      simp only [partM, e1] at hp
      exact hp)
  · exact hT _ (ht true) (by
      have e1 : numTab.lookup ("plain" : Str) = none := by decide +kernel
      simp only [partM, e1] at hp
      exact hp)
  · exact hT _ hb (by
      have e1 : numTab.lookup ("bare" : Str) = none := by decide +kernel
      simp only [partM, e1] at hp
      exact hp)
theorem parts_flat : ∀ {form : List Str} {ps : List Part}, form.all flatC = true → partsM form ps = true → ∀ p ∈ ps, Flat p
  | [], [], _, _, _, h => by cases h
  | c :: cs, p :: ps, hc, hp, q, hq => by
    simp only [List.all_cons, Bool.and_eq_true] at hc
    simp only [partsM, Bool.and_eq_true] at hp
    rcases List.mem_cons.mp hq with rfl | hq
    · exact part_flat hc.1 hp.1
    · exact parts_flat hc.2 hp.2 q hq
  | [], _ :: _, _, hp, _, _ => by cases hp
  | _ :: _, [], _, hp, _, _ => by cases hp
theorem parts_snoc : ∀ {form : List Str} {c : Str} {ps : List Part}, partsM (form ++ [c]) ps = true → ∃ qs p, ps = qs ++ [p] ∧ partsM form qs = true ∧ partM c p = true
  | [], c, ps, h => by
    match ps, h with
    | [], h => cases h
    | [p], h =>
      simp only [List.nil_append, partsM, Bool.and_eq_true] at h
      exact ⟨[], p, rfl, rfl, h.1⟩
    | p :: q :: r, h =>
      simp only [List.nil_append, partsM, Bool.and_eq_true] at h
      cases h.2
  | d :: form, c, ps, h => by
    match ps, h with
    | [], h => cases h
    | p :: r, h =>
      have h2 : (partM d p && partsM (form ++ [c]) r) = true := h
      simp only [Bool.and_eq_true] at h2
      obtain ⟨qs, q, rfl, h3, h4⟩ := parts_snoc h2.2
      refine ⟨p :: qs, q, rfl, ?_, h4⟩
      show (partM d p && partsM form qs) = true
      rw [h2.1, h3]; rfl
theorem parts_len : ∀ {form : List Str} {ps : List Part}, partsM form ps = true → ps.length = form.length
  | [], [], _ => rfl
  | c :: cs, p :: ps, h => by
    simp only [partsM, Bool.and_eq_true] at h
    simp only [List.length_cons, parts_len h.2]
  | [], _ :: _, hp => by cases hp
  | _ :: _, [], hp => by cases hp
theorem form_shape {w : Str} {form : List Str} (h : formTab.lookup w = some form) : (hasTok form = false ∧ form.all flatC = true) ∨ (hasTok form = true ∧ ∃ front c, form = front ++ [c] ∧ c ∈ tokened ∧ front.all flatC = true) := by
  have hall : formTab.all (fun p => if hasTok p.2 then p.2.dropLast.all flatC else p.2.all flatC) = true := by decide +kernel
  have h2 := List.all_eq_true.mp hall _ (lookup_mem h)
  cases ht : hasTok form with
  | false =>
    simp only [ht] at h2
    exact .inl ⟨rfl, by simpa using h2⟩
  | true =>
    simp only [ht] at h2
    refine .inr ⟨rfl, form.dropLast, ?_⟩
    unfold hasTok at ht
    cases hl : form.getLast? with
    | none => rw [hl] at ht; cases ht
    | some c =>
      rw [hl] at ht
      refine ⟨c, ?_, of_decide_eq_true ht, by simpa using h2⟩
      have hne : form ≠ [] := fun e => by rw [e] at hl; cases hl
      have h5 := List.dropLast_concat_getLast hne
      rw [List.getLast?_eq_some_getLast hne] at hl
      injection hl with hl
      rw [hl] at h5
      exact h5.symm
/-- a row's parts: the flat ones, and it may be the tokens -/
theorem row_shape {w : Str} {ps : List Part} {form : List Str} (hf : formTab.lookup w = some form) (hp : partsM form ps = true) :
    (hasTok form = false ∧ ∀ p ∈ ps, Flat p) ∨ (hasTok form = true ∧ ∃ qs xs, ps = qs ++ [.t xs] ∧ (∀ p ∈ qs, Flat p) ∧ tokM xs = true) := by
  rcases form_shape hf with ⟨h1, h2⟩ | ⟨h1, front, c, rfl, h2, h3⟩
  · exact .inl ⟨h1, parts_flat h2 hp⟩
  · obtain ⟨qs, p, rfl, h4, h5⟩ := parts_snoc hp
    obtain ⟨xs, rfl, h6⟩ := part_tok h2 h5
    exact .inr ⟨h1, qs, xs, rfl, parts_flat h3 h4, h6⟩
theorem flat_words : ∀ {ps : List Part}, (∀ p ∈ ps, Flat p) → ps.flatMap partWords = ps.map pw
  | [], _ => rfl
  | p :: ps, h => by
    rw [List.flatMap_cons, List.map_cons, (h p (List.mem_cons_self ..)).words, flat_words fun q hq => h q (List.mem_cons_of_mem _ hq)]
    rfl
theorem tokM_len {xs : List Str} (h : tokM xs = true) : xs.length ≤ 40 := by
  unfold tokM at h
  simp only [Bool.and_eq_true, decide_eq_true_eq] at h
  exact h.2
/-- a row that is one: its word, its parts -/
theorem rowM_at {r : Row} (h : rowM r = true) : ∃ w ps form, r = .s w :: ps ∧ formTab.lookup w = some form ∧ partsM form ps = true ∧ cntM w ps = true := by
  match r, h with
  | .s w :: ps, h =>
    cases hf : formTab.lookup w with
    | none => simp only [rowM, hf] at h; cases h
    | some form =>
      simp only [rowM, hf, Bool.and_eq_true] at h
      exact ⟨w, ps, form, rfl, hf, h.1, h.2⟩
  | [], h => cases h
  | .z :: _, h => cases h
  | .n _ :: _, h => cases h
  | .t _ :: _, h => cases h
end Pk
set_option Elab.async false
set_option linter.all false
set_option maxRecDepth 100000
set_option maxHeartbeats 4000000
namespace Pk
open PySem PySem.Spec PyProof.Rows L2 Evl
section
variable {K : PySem.W.Frag} {σ : L2.St} {H H' : Hp} {ta tb tc te tx : TE} {t u : TT} {x y z v : V} {D : Ends} {tu tw tz : TS} {g : TG}
/-- over some tuple -/
theorem el_tupS {xs : List V} {j : Nat} {vs : List Nat} (b : V → Bool) (q : V → V) (h : EvS K tx σ H xs) (hn : xs.length ≤ sizeLine) (hw : ∀ x, wipe ((wipe σ vs).set j (some x)) vs = wipe σ vs)
    (ht : ∀ (x : V) H0, x ∈ xs → Ex H H0 → EvT t ((wipe σ vs).set j (some x)) H0 (b x)) (he : ∀ (x : V) H0, x ∈ xs → Ex H H0 → b x = true → Ev te ((wipe σ vs).set j (some x)) H0 (q x)) :
    EvL (tLc (iTup K tx) (gName j) t te vs) σ H ((xs.filter b).map q) := fun H1 e Q k =>
  h H1 e _ fun p H2 e2 hp => ⟨p, rfl, ⟨xs, hp⟩, fun D hD => by
    have := el_tup (K := K) (tx := tC (.ref p)) (σ := σ) (H := H2) b q ev_c hp hn hw (fun x H0 hx e0 => ht x H0 hx ((e.trans e2).trans e0)) (fun x H0 hx e0 => he x H0 hx ((e.trans e2).trans e0)) H2 (Ex.refl _) Q fun p' H3 hp' e3 h3 => k p' H3 (fresh_back e2 hp') (e2.trans e3) h3
    obtain ⟨_, e1, _, hh⟩ := this
    cases e1
    exact hh D hD⟩
/-- list(a tuple) -/
theorem el_listT {p : Addr} {xs : List V} (ha : Ev ta σ H (.ref p)) (h : SqT K H p xs) : EvL (tCB (rListS K) (tCons ta tNil)) σ H xs := fun H1 e Q q =>
  ha H1 e _ fun H2 e2 => ⟨p, xs, rfl, Or.inr (ex_t (e.trans e2) h), fun l hl => q l _ (fresh_back e2 hl) (e2.trans (Ex.new hl)) upd_same⟩
/-- two new lists, one behind the other -/
theorem el_cat {xs ys : List V} (ha : EvL ta σ H xs) (hb : EvL tb σ H ys) (hz : xs.length + ys.length ≤ sizeLine) : EvL (tOp rCat ta tb) σ H (xs ++ ys) := fun H1 e Q q =>
  ha H1 e _ fun p H2 hp0 e2 hp => hb H2 (e.trans e2) _ fun p2 H3 hp20 e3 hp2 => ⟨p, p2, xs, ys, rfl, rfl, e3 p _ hp, hp2, hz, fun l hl => q l _ (fresh_back (e2.trans e3) hl) ((e2.trans e3).trans (Ex.new hl)) upd_same⟩
end
/-- str(int | text) -/
def rStrX : List V → Hp → VK → Prop := fun xs H Q => (∃ i, xs = [.int i] ∧ i.natAbs.log2 < 1920 ∧ Q (.str (toString i)) H) ∨ ∃ a, xs = [.str a] ∧ Q (.str a) H
theorem call_strX {X : Cx} : CallR X (.type "str") rStrX := CallR.or call_str_int SkE.call_str_str
section
variable {P : Program} {w : World} {K : PySem.W.Frag} {mg : Str → Option Value} {base : Heap}
/-- the value of a flat part -/
def fv : Part → V
  | .n i => .int i
  | .s x => .str x
  | _ => .non
theorem Flat.at {H : Hp} {p : Part} {v : V} (h : Flat p) (a : PartAt K H p v) : v = fv p := by
  cases h <;> cases a <;> rfl
theorem flats_at {H : Hp} : ∀ {ps : List Part} {vs : List V}, (∀ p ∈ ps, Flat p) → Paired (PartAt K H) ps vs → vs = ps.map fv
  | _, _, _, .nil => rfl
  | _, _, h, .cons a t => by rw [List.map_cons, (h _ (List.mem_cons_self ..)).at a, flats_at (fun p hp => h p (List.mem_cons_of_mem _ hp)) t]
/-- str(part) for the flat ones -/
def wv : V → V
  | .int i => .str (toString i)
  | v => v
theorem ev_strX {σ : L2.St} {H : Hp} {p : Part} {ta : TE} (h : Flat p) (ha : Ev ta σ H (fv p)) : Ev (tCB rStrX (tCons ta tNil)) σ H (wv (fv p)) := by
  cases h with
  | n i hi => exact ev_cb (ea1 ha) fun H1 _ Q q => .inl ⟨i, rfl, by
      have h1 : i.natAbs < 2 ^ 3 := by omega
      have h2 : i.natAbs.log2 < 3 ∨ i.natAbs = 0 := by
        by_cases h0 : i.natAbs = 0
        · exact .inr h0
        · exact .inl ((Nat.log2_lt h0).mpr h1)
      rcases h2 with h2 | h2
      · omega
      · rw [h2]; decide, q H1 (Ex.refl _)⟩
  | s x => exact ev_cb (ea1 ha) fun H1 _ Q q => .inr ⟨x, rfl, q H1 (Ex.refl _)⟩
theorem wv_pw {p : Part} (h : Flat p) : wv (fv p) = .str (pw p) := by cases h <;> rfl
theorem map_wv : ∀ {ps : List Part}, (∀ p ∈ ps, Flat p) → (((ps.map fv).filter fun _ => true).map wv) = (ps.map pw).map V.str
  | [], _ => rfl
  | p :: ps, h => by
    rw [List.map_cons, List.filter_cons, if_pos rfl, List.map_cons, map_wv fun q hq => h q (List.mem_cons_of_mem _ hq), wv_pw (h p (List.mem_cons_self ..))]
    rfl
-- slots: 0 row, 1 form
theorem SC_has_tokens : FnScope ["row", "form"] ["row"] (defScope (top 47)) := ⟨rfl, rfl, rfl, by decide +kernel, rfl, by decide +kernel, by decide +kernel⟩
def sp_has_tokens (K : PySem.W.Frag) : Sp := fun vs H Q _ => ∃ (a : Addr) (w : Str) (vs' : List V) (form : List Str), vs = [.ref a] ∧ SqT K H a (.str w :: vs') ∧ formTab.lookup w = some form ∧ RetV (.bl (hasTok form)) H Q
theorem cl_has_tokens (T : Txt w K mg) : Cl P w K mg base CX0 1 "has_tokens" (sp_has_tokens K) := by
  obtain ⟨fd, F, hm⟩ := T.df 18 "has_tokens" 47 rfl
  refine cl0 F hm SC_has_tokens (fun vs H Q E h => by obtain ⟨a, w, vs, form, rfl, hq, hf, k⟩ := h; rfl) (fun _ _ _ _ _ _ us hl => match us, hl with | [_], _ => rfl) fun cdv A outer s H vs Q E hr h => ?_
  obtain ⟨a, w, vs, form, rfl, hq, hf, k⟩ := h
  refine ⟨_, (pss_cons (ps_set (i := 1) SC_has_tokens.nd rfl (Or.inl rfl) (pe_ix ix_kdict (C8.pe_gc rfl T.g_FORMS) (pe_ix ix_tup (pv 0) pe_int (fun _ _ => rfl)) (fun _ _ => rfl)))
      (pss_one (ps_ret (pe_and (pe_cmpR (op_neD hr.units) (pv 1) (pe_tup pa_nil) (nomark _)) (pe_one (pe_cmpR op_in_seq (pe_ix ix_tup (pv 1) (pe_un un_neg pe_int) (fun _ _ => rfl)) (C8.pe_gc rfl T.g_TOKENED) (by rfl))))))), ?_⟩
  obtain ⟨hcodes, hfl⟩ := form_codes w form hf
  obtain ⟨_, eu, f, rfl, hF⟩ := kd_at T.p_FORMS hf
  obtain ⟨hs1, hs2⟩ := sh_strs form fun c hc => (hcodes c hc).2
  have hsh : SeqAt.shaped (.tuple (form.map PyData.str)) = true := by
    unfold SeqAt.shaped
    simp only [PyData.canLay0, hs1, PyData.depth, hs2]
    rfl
  refine q_asg (ev_op ev_c (ev_op (ev_var rfl) ev_c (rv_ixT hq atI_0)) (rv_ixU (v := .ref f) T.d_FORMS eu rfl)) fun H1 e1 => ?_
  refine s_ret (v := .bl (hasTok form)) ?_ fun H2 e2 => k H2 (e1.trans e2)
  rcases List.eq_nil_or_concat form with rfl | ⟨l, c, hlc⟩
  · exact ev_is (ev_andV (ev_ne0 (ds := ([] : List Str).map PyData.str) (ev_var rfl) (.tup (hF H1) (dp_strs _)) hsh) (b := false) fun h => by cases h) rfl
  · rw [List.concat_eq_append] at hlc
    subst hlc
    have e0 : ((l ++ [c]).map PyData.str).isEmpty = false := by simp
    have e2 : hasTok (l ++ [c]) = decide (c ∈ tokened) := by
      unfold hasTok
      simp
    refine ev_is (ev_andV (ev_ne0 (ds := (l ++ [c]).map PyData.str) (ev_var rfl) (.tup (hF H1) (dp_strs _)) hsh) fun _ => ev_inT (ev_op (ev_var rfl) (ev_un ev_c ru_neg) (rv_ixT (hF H1) (by rw [List.map_append]; exact atI_last))) ev_c T.t_TOKENED) ?_
    rw [e0, e2]; rfl
theorem cut_init {xs : List V} {x : V} : cutV (xs ++ [x]) none (some (-1)) = xs := by
  unfold cutV
  have h1 : HT.sIx (xs ++ [x]).length 0 none = 0 := rfl
  have h2 : HT.sIx (xs ++ [x]).length (xs ++ [x]).length (some (-1)) = xs.length := by
    unfold HT.sIx
    simp
    omega
  rw [h1, h2]
  simp
-- slots: 0 row, 1 part
theorem SC_row_words : FnScope ["row", "part"] ["row"] (defScope (top 48)) := ⟨rfl, rfl, rfl, by decide +kernel, rfl, by decide +kernel, by decide +kernel⟩
def sp_row_words (K : PySem.W.Frag) : Sp := fun vs H Q _ => ∃ (a : Addr) (r : Row), vs = [.ref a] ∧ RowAt K H r a ∧ rowM r = true ∧ RetL ((rowWords r).map .str) H Q
theorem cl_row_words (T : Txt w K mg) : Cl P w K mg base CX0 2 "row_words" (sp_row_words K) := by
  obtain ⟨fd, F, hm⟩ := T.df 19 "row_words" 48 rfl
  refine cl0 F hm SC_row_words (fun vs H Q E h => by obtain ⟨a, r, rfl, hr0, hm0, k⟩ := h; rfl) (fun _ _ _ _ _ _ us hl => match us, hl with | [_], _ => rfl) fun cdv A outer s H vs Q E hr h => ?_
  obtain ⟨a, r, rfl, hr0, hm0, k⟩ := h
  refine ⟨_, (pss_cons (ps_if (pt_val (pc (cl_has_tokens T) hr (by decide) rfl (pa_cons (pv 0) pa_nil))) (pss_one (ps_ret (pe_op op_cat (pe_lc (own := [("part", 1)]) (g := gName 1) (tt := tYes) rfl SC_row_words.nd (pi_tup (pe_slice sl_tupA (pv 0) po_none (po_some (pe_un un_neg pe_int)))) (blkOk_by (own := [("part", 1)]) (N := ["row", "part"]) (sc := defScope (top 48)) (by decide +kernel)) (fun _ _ _ _ _ => (pg_name (i := 1) SC_row_words.nd rfl (Or.inl rfl))) (fun _ _ _ _ _ => pts_nil) (fun _ _ _ _ _ => (pe_callTy call_strX rfl T.f_str boot_str (pa_cons (pv 1) pa_nil)))) (pe_callTy call_list_of rfl T.f_list boot_list (pa_cons (pe_ix ix_tup (pv 0) (pe_un un_neg pe_int) (fun _ _ => rfl)) pa_nil))))) pss_nil)
      (pss_one (ps_ret (pe_lc (own := [("part", 1)]) (g := gName 1) (tt := tYes) rfl SC_row_words.nd (pi_tup (pv 0)) (blkOk_by (own := [("part", 1)]) (N := ["row", "part"]) (sc := defScope (top 48)) (by decide +kernel)) (fun _ _ _ _ _ => (pg_name (i := 1) SC_row_words.nd rfl (Or.inl rfl))) (fun _ _ _ _ _ => pts_nil) (fun _ _ _ _ _ => (pe_callTy call_strX rfl T.f_str boot_str (pa_cons (pv 1) pa_nil))))))), ?_⟩
  obtain ⟨w, ps, form, rfl, hf, hpm, _⟩ := rowM_at hm0
  obtain ⟨vs, hq, hp⟩ := hr0
  cases hp with
  | cons h0 hp =>
    rename_i v0 vs
    cases h0 with
    | s hw =>
      have hht : ∀ {D' : Hp → Prop}, EvT (tB (tCall (sp_has_tokens K) [] E0 (tCons (tVar 0) tNil))) (start ["row", "part"] [.ref a]) H (hasTok form) := fun {_} => et_B (ev_callV (ea1 (ev_var rfl)) fun H1 e1 Q k => ⟨a, w, vs, form, rfl, ex_t e1 hq, hf, k⟩)
      have hfl := (form_codes w form hf).2
      have hpl : ps.length = form.length := parts_len hpm
      rcases row_shape hf hpm with ⟨ht, hflat⟩ | ⟨ht, qs, xs, rfl, hflat, htok⟩
      · have hvs : vs = ps.map fv := flats_at hflat hp
        have hall : ∀ p ∈ Part.s w :: ps, Flat p := fun p hp => by
          rcases List.mem_cons.mp hp with rfl | hp
          · exact .s w
          · exact hflat p hp
        have hvv : V.str w :: vs = (Part.s w :: ps).map fv := by rw [List.map_cons, hvs]; rfl
        rw [hvv] at hq
        refine q_when (b := false) (et_is (hht (D' := fun _ => True)) ht) (fun h => by cases h) (fun _ H1 e1 => ?_)
        refine s_retL (el_is (el_tup (fun _ => true) wv (ev_var rfl) (ex_t e1 hq) (by rw [List.length_map, List.length_cons, hpl]; exact Nat.le_trans (Nat.add_le_add_right hfl 1) (by decide)) (fun _ => rfl) (fun _ _ _ _ => et_yes) fun x H0 hx e0 _ => ?_) (map_wv hall)) fun p H2 hp2 e2 h2 => k p H2 (fresh_back e1 hp2) (e1.trans e2) ?_
        · obtain ⟨p, hp1, rfl⟩ := List.mem_map.mp hx
          exact ev_strX (hall p hp1) (ev_var rfl)
        · rw [h2]
          unfold rowWords
          rw [flat_words hall]
      · have h3 : ∃ us b, vs = us ++ [.ref b] ∧ us = qs.map fv ∧ SqT K H b (xs.map .str) := by
          have : ∀ {qs : List Part} {vs : List V}, (∀ p ∈ qs, Flat p) → Paired (PartAt K H) (qs ++ [.t xs]) vs → ∃ us b, vs = us ++ [.ref b] ∧ us = qs.map fv ∧ SqT K H b (xs.map .str) := by
            intro qs
            induction qs with
            | nil =>
              intro vs _ h
              match vs, h with
              | [v], .cons h .nil =>
                cases h with
                | t h _ _ => exact ⟨[], _, rfl, rfl, h⟩
            | cons q qs ih =>
              intro vs hfl h
              match vs, h with
              | v :: vs, .cons h t =>
                obtain ⟨us, b, rfl, rfl, hb⟩ := ih (fun p hp => hfl p (List.mem_cons_of_mem _ hp)) t
                exact ⟨v :: qs.map fv, b, rfl, by rw [List.map_cons, (hfl q (List.mem_cons_self ..)).at h], hb⟩
          exact this hflat hp
        obtain ⟨us, b, rfl, rfl, hb⟩ := h3
        have hall : ∀ p ∈ Part.s w :: qs, Flat p := fun p hp => by
          rcases List.mem_cons.mp hp with rfl | hp
          · exact .s w
          · exact hflat p hp
        have hvv : V.str w :: (qs.map fv ++ [.ref b]) = (Part.s w :: qs).map fv ++ [.ref b] := rfl
        rw [hvv] at hq
        have hql : (Part.s w :: qs).length ≤ 6 := by
          have := hpl
          simp only [List.length_append, List.length_singleton] at this
          simp only [List.length_cons]
          omega
        refine q_when (b := true) (et_is (hht (D' := fun _ => True)) ht) (fun _ H1 e1 => ?_) (fun h => by cases h)
        refine s_retL (el_cat (el_is (el_tupS (fun _ => true) wv (es_is (es_sl (ev_var rfl) eo_none (eo_some (ev_un ev_c ru_neg)) (ex_t e1 hq)) cut_init) (by rw [List.length_map]; exact Nat.le_trans hql (by decide)) (fun _ => rfl) (fun _ _ _ _ => et_yes) fun x H0 hx e0 _ => ?_) (map_wv hall)) (el_listT (ev_op (ev_var rfl) (ev_un ev_c ru_neg) (rv_ixT (ex_t e1 hq) atI_last)) (ex_t e1 hb)) (by
            simp only [List.length_map]
            exact Nat.le_trans (Nat.add_le_add hql (tokM_len htok)) (by decide))) fun p H2 hp2 e2 h2 => k p H2 (fresh_back e1 hp2) (e1.trans e2) ?_
        · obtain ⟨p, hp1, rfl⟩ := List.mem_map.mp hx
          exact ev_strX (hall p hp1) (ev_var rfl)
        · rw [h2]
          have : rowWords (Part.s w :: (qs ++ [Part.t xs])) = (Part.s w :: qs).map pw ++ xs := by
            show (Part.s w :: qs ++ [Part.t xs]).flatMap partWords = _
            rw [List.flatMap_append, flat_words hall]
            simp [partWords]
          rw [this, List.map_append]
-- slots: 0 row
theorem SC_row_text : FnScope ["row"] ["row"] (defScope (top 49)) := ⟨rfl, rfl, rfl, by decide +kernel, rfl, by decide +kernel, by decide +kernel⟩
def sp_row_text (K : PySem.W.Frag) : Sp := fun vs H Q _ => ∃ (a : Addr) (r : Row), vs = [.ref a] ∧ RowAt K H r a ∧ rowM r = true ∧ wt (rowWords r) ≤ 4000000 ∧ RetV (.str (Txt.join bl (rowWords r))) H Q
theorem cl_row_text (T : Txt w K mg) : Cl P w K mg base CX0 3 "row_text" (sp_row_text K) := by
  obtain ⟨fd, F, hm⟩ := T.df 20 "row_text" 49 rfl
  refine cl0 F hm SC_row_text (fun vs H Q E h => by obtain ⟨a, r, rfl, hr0, hm0, hw, k⟩ := h; rfl) (fun _ _ _ _ _ _ us hl => match us, hl with | [_], _ => rfl) fun cdv A outer s H vs Q E hr h => ?_
  obtain ⟨a, r, rfl, hr0, hm0, hw, k⟩ := h
  refine ⟨_, (pss_one (ps_ret (pe_join pe_str (pc (cl_row_words T) hr (by decide) rfl (pa_cons (pv 0) pa_nil))))), ?_⟩
  refine s_ret (ev_joinN ev_c (ev_callL (ea1 (ev_var rfl)) fun H1 e1 Q k => ⟨a, r, rfl, hr0.mono e1, hm0, k⟩) ?_) fun H1 e1 => k H1 e1
  have h1 := wt_sum (rowWords r)
  have h2 : (bl : Str).length = 1 := by decide
  show ((rowWords r).map (·.length)).sum + (rowWords r).length * (bl : Str).length ≤ _
  rw [h2]
  omega
end
end Pk
set_option Elab.async false
set_option linter.all false
set_option maxRecDepth 100000
set_option maxHeartbeats 4000000
namespace Pk
open PySem PySem.Spec PyProof.Rows L2 Evl
section
variable {P : Program} {w : World} {K : PySem.W.Frag} {mg : Str → Option Value} {base : Heap}
theorem et_hasTok {σ : L2.St} {H : Hp} {tv : TE} {f : Addr} {form : List Str} {tk : Addr} (hv : Ev tv σ H (.ref f)) (hF : ∀ H, SqT K H f (form.map .str)) (hok : ∀ c ∈ form, PySem.PyData.strOk c = true) (hT : ∀ H, SqT K H tk (tokened.map V.str)) :
    EvT (tAnd (tTest (tOp (rNeD K) tv (tTup tNil))) (tTest (tOp (rIn K false) (tOp (rIxT K) tv (tUn (rU fun i => .int (-i)) (tC (.int 1)))) (tC (.ref tk))))) σ H (hasTok form) := by
  obtain ⟨hs1, hs2⟩ := sh_strs form hok
  have hsh : SeqAt.shaped (.tuple (form.map PyData.str)) = true := by
    unfold SeqAt.shaped
    simp only [PyData.canLay0, hs1, PyData.depth, hs2]
    rfl
  rcases List.eq_nil_or_concat form with rfl | ⟨l, c, hlc⟩
  · exact et_is (et_and (et_test (ev_ne0 (ds := ([] : List Str).map PyData.str) hv (.tup (hF H) (dp_strs _)) hsh)) (b := false) fun h => by cases h) rfl
  · rw [List.concat_eq_append] at hlc
    subst hlc
    have e0 : ((l ++ [c]).map PyData.str).isEmpty = false := by simp
    have e2 : hasTok (l ++ [c]) = decide (c ∈ tokened) := by
      unfold hasTok
      simp
    refine et_is (et_and (et_test (ev_ne0 (ds := (l ++ [c]).map PyData.str) hv (.tup (hF H) (dp_strs _)) hsh)) fun _ => et_test (ev_inT (ev_op hv (ev_un ev_c ru_neg) (rv_ixT (hF H) (by rw [List.map_append]; exact atI_last))) ev_c hT)) ?_
    rw [e0, e2]; rfl
theorem pv1_at {H : Hp} {c z : Str} (h : Gd z) : PartAt K H (partIn c z) (pv1 (partIn c z)) := by
  unfold partIn
  cases (numTab.lookup c).isSome with
  | true =>
    rw [if_pos rfl]
    unfold numberM
    cases (canon z && decide (z.length ≤ 9)) with
    | true => exact .n _
    | false => exact .z
  | false =>
    rw [if_neg Bool.false_ne_true]
    exact .s h
theorem giv_zipS (form rest : List Str) (n : Nat) (hn : n = (form.zip rest).length) (F : Str → Str → V) (d : V) :
    giv n (fun m => if true = true then some (match form[m]?, rest[m]? with
      | some c, some p => F c p
      | _, _ => d) else none) = (form.zip rest).map fun q => F q.1 q.2 := by
  subst hn
  rw [giv_map (form.zip rest) (fun q => some (F q.1 q.2)) _ fun i x hx => ?_]
  · induction form.zip rest with
    | nil => rfl
    | cons a l ih => simp
  · obtain ⟨c, p⟩ := x
    rw [List.getElem?_zip_eq_some] at hx
    rw [if_pos rfl, hx.1, hx.2]
theorem cut_mid (w : V) (xs : List V) (m : Nat) : cutV (w :: xs) (some 1) (some (1 + (m : Int))) = xs.take m := by
  unfold cutV
  have h1 : HT.sIx (w :: xs).length 0 (some 1) = 1 := by
    rw [show (1 : Int) = ((1 : Nat) : Int) from rfl, HT.sIx_nat]
    simp only [List.length_cons]; omega
  have h2 : HT.sIx (w :: xs).length (w :: xs).length (some (1 + (m : Int))) = min (1 + m) (w :: xs).length := by
    rw [show (1 + (m : Int)) = ((1 + m : Nat) : Int) by omega, HT.sIx_nat]
  rw [h1, h2]
  simp only [List.length_cons, List.drop_succ_cons, List.drop_zero]
  rw [List.take_eq_take_iff]
  omega
theorem cut_end (w : V) (xs : List V) (m : Nat) : cutV (w :: xs) (some (1 + (m : Int))) none = xs.drop m := by
  unfold cutV
  have h1 : HT.sIx (w :: xs).length 0 (some (1 + (m : Int))) = min (1 + m) (w :: xs).length := by
    rw [show (1 + (m : Int)) = ((1 + m : Nat) : Int) by omega, HT.sIx_nat]
  have h2 : HT.sIx (w :: xs).length (w :: xs).length none = (w :: xs).length := rfl
  rw [h1, h2]
  by_cases hm : m ≤ xs.length
  · have e : min (1 + m) (w :: xs).length = m + 1 := by simp only [List.length_cons]; omega
    rw [e, List.drop_succ_cons]
    apply List.take_of_length_le
    simp only [List.length_drop, List.length_cons]; omega
  · have e : min (1 + m) (w :: xs).length = xs.length + 1 := by simp only [List.length_cons]; omega
    rw [e, List.drop_succ_cons, List.drop_length, List.drop_eq_nil_of_le (by omega)]
    simp
/-- a list written, the tuples stay -/
theorem sqt_upd {H : Hp} {D p : Addr} {xs ys : List V} {o : HO} (h : SqT K H p xs) (hD : H D = some (.lst ys)) : SqT K (upd H D o) p xs := by
  rcases h with h | h
  · refine Or.inl ?_
    rcases h with h | ⟨o', h⟩
    · by_cases e : p = D
      · subst e
        rw [hD] at h
        cases h
      · exact Or.inl (by rw [upd_ne e]; exact h)
    · by_cases e : p = D
      · subst e
        rw [hD] at h
        cases h
      · exact Or.inr ⟨o', by rw [upd_ne e]; exact h⟩
  · exact Or.inr h
def ansRow (K : PySem.W.Frag) (o : Option Row) (v : V) (H : Hp) : Prop := match o with
  | none => v = .non
  | some r => ∃ b, v = .ref b ∧ RowAt K H r b
-- slots: 0 words, 1 form, 2 many, 3 parts, 4 code, 5 word, 6 row
theorem SC_row_in : FnScope ["words", "form", "many", "parts", "code", "word", "row"] ["words"] (defScope (top 52)) := ⟨rfl, rfl, rfl, by decide +kernel, rfl, by decide +kernel, by decide +kernel⟩
def sp_row_in (K : PySem.W.Frag) : Sp := fun vs H Q _ => ∃ (a : Addr) (w : Str) (rest : List Str), vs = [.ref a] ∧ SqT K H a ((w :: rest).map .str) ∧ (∀ x ∈ w :: rest, Gd x) ∧ rest.length ≤ 1000000 ∧ (∀ v H', Same H H' → ansRow K (rowIn (w :: rest)) v H' → Q v H')
theorem cl_row_in (T : Txt w K mg) : Cl P w K mg base CX0 9 "row_in" (sp_row_in K) := by
  obtain ⟨fd, F, hm⟩ := T.df 23 "row_in" 52 rfl
  refine cl0 F hm SC_row_in (fun vs H Q E h => by obtain ⟨a, w, rest, rfl, hq, hg, hl, k⟩ := h; rfl) (fun _ _ _ _ _ _ us hl => match us, hl with | [_], _ => rfl) fun cdv A outer s H vs Q E hr h => ?_
  obtain ⟨a, w, rest, rfl, hq, hg, hl, k⟩ := h
  refine ⟨_, (pss_cons (ps_if (PW.pt (pw_or (pt_cmpR (op_eqD hr.units) (pv 0) (pe_tup pa_nil) (nomark _)) (pw_or1 (pt_cmpR (op_ninKD T.d_FORMS) (pe_ix ix_tup (pv 0) pe_int (fun _ _ => rfl)) (C8.pe_gc rfl T.g_FORMS) (by rfl))))) (pss_one (ps_ret pe_non)) pss_nil)
      (pss_cons (ps_set (i := 1) SC_row_in.nd rfl (Or.inl rfl) (pe_ix ix_kdict (C8.pe_gc rfl T.g_FORMS) (pe_ix ix_tup (pv 0) pe_int (fun _ _ => rfl)) (fun _ _ => rfl)))
      (pss_cons (ps_set (i := 2) SC_row_in.nd rfl (Or.inl rfl) (pe_ifExp (PW.pt (pw_and (pt_cmpR (op_neD hr.units) (pv 1) (pe_tup pa_nil) (nomark _)) (pw_and1 (pt_cmpR op_in_seq (pe_ix ix_tup (pv 1) (pe_un un_neg pe_int) (fun _ _ => rfl)) (C8.pe_gc rfl T.g_TOKENED) (by rfl))))) (pe_op op_sub (pe_callB call_len_seq rfl T.f_len boot_len (pa_cons (pv 1) pa_nil)) pe_int) (pe_callB call_len_seq rfl T.f_len boot_len (pa_cons (pv 1) pa_nil))))
      (pss_cons (ps_if (PW.pt (pw_or (pt_cmpR op_lt (pe_callB call_len_seq rfl T.f_len boot_len (pa_cons (pv 0) pa_nil)) (pe_op op_add pe_int (pv 2)) (nomark _)) (pw_or1 (PW.pt (pw_and (pt_cmpR op_eq (pe_callB call_len_seq rfl T.f_len boot_len (pa_cons (pv 1) pa_nil)) (pv 2) (nomark _)) (pw_and1 (pt_cmpR op_gt (pe_callB call_len_seq rfl T.f_len boot_len (pa_cons (pv 0) pa_nil)) (pe_op op_add pe_int (pv 2)) (nomark _)))))))) (pss_one (ps_ret pe_non)) pss_nil)
      (pss_cons (ps_setLc (i := 3) (own := [("code", 4), ("word", 5)]) (tt := tYes) rfl SC_row_in.nd rfl rfl (sw_true rfl rfl rfl (by decide +kernel)) (RZ.pi_zipA rfl T.f_zip (pa_cons (pv 1) (pa_cons (pe_slice sl_tupA (pv 0) (po_some pe_int) (po_some (pe_op op_add pe_int (pv 2)))) pa_nil))) (blkOk_by (own := [("code", 4), ("word", 5)]) (N := ["words", "form", "many", "parts", "code", "word", "row"]) (sc := defScope (top 52)) (by decide +kernel)) (fun _ _ _ _ _ => (pg_tupK (K := K) (n := 2) rfl rfl (pgs_cons (pg_name (i := 4) SC_row_in.nd rfl (Or.inl rfl)) (pgs_cons (pg_name (i := 5) SC_row_in.nd rfl (Or.inl rfl)) pgs_nil)))) (fun _ _ _ _ _ => pts_nil) (fun _ _ _ _ _ => (pc (cl_part_in T) hr (by decide) rfl (pa_cons (pv 4) (pa_cons (pv 5) pa_nil)))))
      (pss_cons (ps_if (pt_cmpR op_lt (pv 2) (pe_callB call_len_seq rfl T.f_len boot_len (pa_cons (pv 1) pa_nil)) (nomark _)) (pss_one (ps_expr (pe_bm PySem.F.plainAttrs_list PySem.F.slot_list_append PySem.F.type_list_append mt_append (pv 3) (pa_cons (pe_callTy call_tuple_of rfl T.f_tuple boot_tuple (pa_cons (pe_slice sl_tupA (pv 0) (po_some (pe_op op_add pe_int (pv 2))) po_none) pa_nil)) pa_nil)))) pss_nil)
      (pss_cons (ps_set (i := 6) SC_row_in.nd rfl (Or.inl rfl) (pe_op op_catA (pe_tup (pa_cons (pe_ix ix_tup (pv 0) pe_int (fun _ _ => rfl)) pa_nil)) (pe_callTy call_tuple_of rfl T.f_tuple boot_tuple (pa_cons (pv 3) pa_nil))))
      (pss_one (ps_ret (pe_ifExp (pt_val (pc (cl_is_row T) hr (by decide) rfl (pa_cons (pv 6) pa_nil))) (pv 6) pe_non)))))))))), ?_⟩
  obtain ⟨hs1, hs2⟩ := sh_strs (w :: rest) fun c hc => (hg c hc).2
  have hsh : SeqAt.shaped (.tuple ((w :: rest).map PyData.str)) = true := by
    unfold SeqAt.shaped
    simp only [PyData.canLay0, hs1, PyData.depth, hs2]
    rfl
  cases hf : formTab.lookup w with
  | none =>
    have hr : rowIn (w :: rest) = none := by simp only [rowIn, hf]
    refine q_when (b := true) (et_is (et_or (et_test (ev_eq0 (ds := (w :: rest).map PyData.str) (ev_var rfl) (.tup hq (dp_strs _)) hsh)) fun _ => et_test (ev_op (ev_op (ev_var rfl) ev_c (rv_ixT hq atI_0)) ev_c (rv_ninKD T.p_FORMS))) (by rw [hf]; rfl)) (fun _ H1 e1 => s_ret ev_c fun H2 e2 => k .non H2 (e1.trans e2) (by rw [hr]; rfl)) (fun h => by cases h)
  | some form =>
    obtain ⟨hcodes, hfl⟩ := form_codes w form hf
    obtain ⟨_, eu, f, rfl, hF⟩ := kd_at T.p_FORMS hf
    refine q_when (b := false) (et_is (et_or (et_test (ev_eq0 (ds := (w :: rest).map PyData.str) (ev_var rfl) (.tup hq (dp_strs _)) hsh)) fun _ => et_test (ev_op (ev_op (ev_var rfl) ev_c (rv_ixT hq atI_0)) ev_c (rv_ninKD T.p_FORMS))) (by rw [hf]; rfl)) (fun h => by cases h) (fun _ H1 e1 => ?_)
    refine q_asg (ev_op ev_c (ev_op (ev_var rfl) ev_c (rv_ixT (ex_t e1 hq) atI_0)) (rv_ixU (v := .ref f) T.d_FORMS eu rfl)) fun H2 e2 => ?_
    have E2 := e1.trans e2
    generalize hM : (if hasTok form then form.length - 1 else form.length) = M
    have hMle : M ≤ form.length := by rw [← hM]; split <;> omega
    have hne : hasTok form = true → form.length ≠ 0 := fun h e => by
      rw [List.length_eq_zero_iff.mp e] at h
      cases h
    have hlenF : Ev (tCB (fun xs H Q => ∃ p ys, xs = [.ref p] ∧ (SqL K H p ys ∨ SqT K H p ys) ∧ Q (.int ys.length) H) (tCons (tVar 1) tNil)) ((start ["words", "form", "many", "parts", "code", "word", "row"] [.ref a]).set 1 (some (.ref f))) H2 (.int (form.length : Nat)) :=
      ev_is (ev_cb (ea1 (ev_var rfl)) (rc_lenT (hF H2))) (by rw [List.length_map])
    refine q_asg (v := .int (M : Nat)) (ev_if (b := hasTok form) (et_hasTok (ev_var rfl) hF (fun c hc => (hcodes c hc).2) T.t_TOKENED) (fun h => ev_is (ev_op hlenF ev_c rv_I0) ?_) (fun h => ev_is hlenF ?_)) fun H3 e3 => ?_
    · have := hne h
      rw [← hM, if_pos h]
      congr 1
      omega
    · rw [← hM, if_neg (by rw [h]; exact Bool.false_ne_true)]
    have E3 := E2.trans e3
    have hlenW : ∀ {σ : L2.St} {H4 : Hp}, Ex H H4 → σ[0]? = some (some (.ref a)) → Ev (tCB (fun xs H Q => ∃ p ys, xs = [.ref p] ∧ (SqL K H p ys ∨ SqT K H p ys) ∧ Q (.int ys.length) H) (tCons (tVar 0) tNil)) σ H4 (.int ((1 + rest.length : Nat) : Int)) := fun e h0 =>
      ev_is (ev_cb (ea1 (ev_var h0)) (rc_lenT (ex_t e hq))) (by
        congr 1
        simp only [List.length_map, List.length_cons]
        omega)
    have hlenF2 : ∀ {σ : L2.St} {H4 : Hp}, σ[1]? = some (some (.ref f)) → Ev (tCB (fun xs H Q => ∃ p ys, xs = [.ref p] ∧ (SqL K H p ys ∨ SqT K H p ys) ∧ Q (.int ys.length) H) (tCons (tVar 1) tNil)) σ H4 (.int (form.length : Nat)) := fun h0 =>
      ev_is (ev_cb (ea1 (ev_var h0)) (rc_lenT (hF _))) (by rw [List.length_map])
    generalize hbad : (decide (rest.length < M) || (decide (hasTok form = false) && decide (form.length < rest.length))) = bad
    have hrow0 : bad = true → rowIn (w :: rest) = none := fun h => by
      rw [h] at hbad
      simp only [rowIn, hf, hM]
      by_cases h1 : rest.length < M
      · rw [if_pos h1]
      · rw [if_neg h1]
        rw [decide_eq_false h1, Bool.false_or, Bool.and_eq_true, decide_eq_true_eq, decide_eq_true_eq] at hbad
        rw [if_pos hbad]
    refine q_when (b := bad) (et_is (et_or (et_test (ev_op (hlenW E3 rfl) (ev_op ev_c (ev_var rfl) rv_I0) rv_I0)) fun _ => et_and (et_test (ev_op (hlenF2 rfl) (ev_var rfl) (rv_eq rfl))) fun _ => et_test (ev_op (hlenW E3 rfl) (ev_op ev_c (ev_var rfl) rv_I0) rv_I0)) ?_)
      (fun h H4 e4 => s_ret ev_c fun H5 e5 => k .non H5 ((E3.trans e4).trans e5) (by rw [hrow0 h]; rfl)) (fun h H4 e4 => ?_)
    · rw [← hbad]
      have h1 : decide (((1 + rest.length : Nat) : Int) < 1 + (M : Int)) = decide (rest.length < M) := decide_eq_decide.mpr (by omega)
      have h2 : decide (V.int (form.length : Nat) = V.int (M : Nat)) = decide (hasTok form = false) := decide_eq_decide.mpr ⟨fun h => by
          have h3 : ((form.length : Nat) : Int) = (M : Int) := V.int.inj h
          cases ht : hasTok form with
          | false => rfl
          | true =>
            have := hne ht
            rw [ht] at hM
            simp only [if_true] at hM
            omega, fun h => by rw [← hM, h]; rfl⟩
      rw [h1, h2]
      cases ht : hasTok form with
      | true => rfl
      | false =>
        rw [ht] at hM
        have h4 : M = form.length := hM.symm
        have h3 : decide (1 + (M : Int) < ((1 + rest.length : Nat) : Int)) = decide (form.length < rest.length) := decide_eq_decide.mpr (by omega)
        rw [h3]
    have E4 := E3.trans e4
    rw [h] at hbad
    have hb1 : ¬ rest.length < M := fun q => by rw [decide_eq_true q] at hbad; cases hbad
    have hb2 : ¬ (hasTok form = false ∧ form.length < rest.length) := fun q => by
      rw [decide_eq_true q.1, decide_eq_true q.2] at hbad
      cases h9 : decide (rest.length < M) <;> rw [h9] at hbad <;> cases hbad
    generalize hP : ((form.zip (rest.take M)).map fun cz => partIn cz.1 cz.2) = Ps
    generalize hPV : ((form.zip (rest.take M)).map fun cz => pv1 (partIn cz.1 cz.2)) = Vs
    have hPl : Ps.length = M := by
      rw [← hP, List.length_map, List.length_zip, List.length_take]
      omega
    have hVl : Vs.length = M := by
      rw [← hPV, List.length_map, List.length_zip, List.length_take]
      omega
    have hPA : ∀ H, Paired (PartAt K H) Ps Vs := fun H0 => by
      rw [← hP, ← hPV]
      have hz : ∀ cz ∈ form.zip (rest.take M), Gd cz.2 := fun cz hcz => hg _ (List.mem_cons_of_mem _ (List.mem_of_mem_take (List.of_mem_zip (show (cz.1, cz.2) ∈ _ from hcz)).2))
      generalize form.zip (rest.take M) = l at hz
      induction l with
      | nil => exact .nil
      | cons q l ih => exact .cons (pv1_at (hz q (List.mem_cons_self ..))) (ih fun q hq => hz q (List.mem_cons_of_mem _ hq))
    refine q_asgL (xs := Vs) (fun H5 e5 Q k2 => ⟨.ref f, rfl, es_is (es_sl (ev_var (H := H4) rfl) (eo_some ev_c) (eo_some (ev_op ev_c (ev_var rfl) rv_I0)) (ex_t E4 hq)) (cut_mid (.str w) (rest.map V.str) M) H5 e5 _ fun p H6 e6 hp => ?_⟩) fun D H5 hD e5 hDl => ?_
    · have hp2 : SqT K H6 p ((rest.take M).map V.str) := by rw [List.map_take]; exact hp
      have := (el_is (el_lcP (K := K) (σ := (((start ["words", "form", "many", "parts", "code", "word", "row"] [.ref a]).set 1 (some (.ref f))).set 2 (some (.int (M : Nat))))) (H := H6) (wi := RZ.iZipA K (tCons (tVar 1) (tCons (tC (.ref p)) tNil))) (walk_zipT (K := K) (a := f) (b := p) (xs := form.map V.str) (ys := (rest.take M).map V.str) rfl)
        (by simp only [List.length_map]; exact Nat.le_trans (Nat.min_le_left _ _) (Nat.le_trans hfl (by decide))) (i := 4) (j := 5) (vs := [4, 5]) (te := tCall (sp_part_in K) [] E0 (tCons (tVar 4) (tCons (tVar 5) tNil))) (t := tYes) (fun _ => true) (fun m => match form[m]?, (rest.take M)[m]? with
            | some c, some z => pv1 (partIn c z)
            | _, _ => .non) (fun H7 e7 R hR => ea2 (ev_var rfl) ev_c H7 (Ex.refl _) _ fun H8 e8 => ⟨f, p, _, _, rfl, .inr ⟨hF H8, ex_t (e7.trans e8) hp2, hR H8 e8⟩⟩) (fun H7 e7 => ⟨hF H7, ex_t e7 hp2⟩) (fun _ _ => rfl) (fun _ _ _ _ _ _ _ _ => et_yes) (fun m x y H7 hm e7 hx hy _ => by
            obtain ⟨c, hc, rfl⟩ := map_at hx
            obtain ⟨z, hz, rfl⟩ := map_at hy
            rw [hc, hz]
            exact ev_callV (ea2 (ev_var rfl) (ev_var rfl)) fun H8 e8 Q k => ⟨c, z, rfl, (hg z (List.mem_cons_of_mem _ (List.mem_of_mem_take (List.mem_of_getElem? hz)))).1, k⟩)) ((giv_zipS form (rest.take M) _ (by simp only [List.length_zip, List.length_map]) (fun c z => pv1 (partIn c z)) .non).trans hPV)) H6 (Ex.refl _) Q fun p' H7 hp' e7 h7 => k2 p' H7 (fresh_back e6 hp') (e6.trans e7) h7
      obtain ⟨v, hv, hh⟩ := this
      have hv2 : v = .ref f := by
        have : some (some (V.ref f)) = some (some v) := hv
        injection this with this
        injection this with this
        exact this.symm
      rw [hv2] at hh
      exact hh
    have E5 := E4.trans e5
    have hDn : H D = none := fresh_back E4 hD
    -- the end: the row from the list of its parts
    have fin : ∀ (tail : List Part) (tv : List V) (H6 : Hp) (σ : L2.St), Ex H H6 → H6 D = some (.lst (Vs ++ tv)) → Paired (PartAt K H6) (Ps ++ tail) (Vs ++ tv) → (Ps ++ tail).length = form.length → rowIn (w :: rest) = (if rowM (.s w :: (Ps ++ tail)) then some (.s w :: (Ps ++ tail)) else none) →
        σ[0]? = some (some (.ref a)) → σ[3]? = some (some (.ref D)) → σ.length = 7 → ∀ {D' : Ends}, D'.rt = Q →
        tSeq (tAsg (tOp (rCatA K) (tTup (tCons (tOp (rIxT K) (tVar 0) (tC (.int 0))) tNil)) (tCB (rTupOf K) (tCons (tVar 3) tNil))) (gName 6)) (tRet (tIf (tB (tCall (sp_is_row K) [] E0 (tCons (tVar 6) tNil))) (tVar 6) (tC .non))) D' σ H6 := by
      intro tail tv H6 σ E6 hD6 hp6 hlen hrow h0 h3 h7 D' hrt
      refine q_asgS (es_cat (es_u (eu_tup (ea1 (ev_op (ev_var h0) ev_c (rv_ixT (ex_t E6 hq) atI_0))) (by simp))) (es_tupL (ev_var h3) (sq_of hD6)) ?_) fun p H7 e7 hp7 => ?_
      · have h8 := Paired.length hp6
        rw [← h8, hlen]
        simp only [List.length_singleton]
        exact Nat.le_trans (Nat.add_le_add_left hfl 1) (by decide)
      · have hR7 : RowAt K H7 (.s w :: (Ps ++ tail)) p := ⟨_, hp7, .cons (.s (hg w (List.mem_cons_self ..))) (parts_mono e7 hp6)⟩
        have h6 : (σ.set 6 (some (.ref p)))[6]? = some (some (.ref p)) := by simp [h7]
        cases hm : rowM (.s w :: (Ps ++ tail)) with
        | true =>
          refine s_ret (v := .ref p) (ev_if (b := true) (et_is (et_B (ev_callV (ea1 (ev_var h6)) fun H8 e8 Q k => ⟨p, w, Ps ++ tail, form, rfl, hR7.mono e8, hf, hlen, k⟩)) hm) (fun _ => ev_var h6) (fun h => by cases h)) fun H8 e8 => ?_
          rw [hrt]
          refine k _ H8 ((E6.trans e7).trans e8) ?_
          rw [hrow, hm]
          exact ⟨p, rfl, hR7.mono e8⟩
        | false =>
          refine s_ret (v := .non) (ev_if (b := false) (et_is (et_B (ev_callV (ea1 (ev_var h6)) fun H8 e8 Q k => ⟨p, w, Ps ++ tail, form, rfl, hR7.mono e8, hf, hlen, k⟩)) hm) (fun h => by cases h) (fun _ => ev_c)) fun H8 e8 => ?_
          rw [hrt]
          refine k _ H8 ((E6.trans e7).trans e8) ?_
          rw [hrow, hm]
          rfl
    have hri : rowIn (w :: rest) = (if rowM (.s w :: (Ps ++ if hasTok form then [.t (rest.drop (form.length - 1))] else [])) then some (.s w :: (Ps ++ if hasTok form then [.t (rest.drop (form.length - 1))] else [])) else none) := by
      simp only [rowIn, hf, hM]
      rw [if_neg hb1, if_neg hb2, hP]
    cases ht : hasTok form with
    | true =>
      have hn0 := hne ht
      rw [ht] at hM hri
      have hM2 : form.length - 1 = M := hM
      simp only [if_true] at hri
      rw [hM2] at hri
      refine q_when (b := true) (et_is (et_test (ev_op (ev_var rfl) (hlenF2 rfl) rv_I0)) (decide_eq_true (by omega))) (fun _ H6 e6 => ?_) (fun h => by cases h)
      refine s_appS (e6 _ _ hDl) (ev_var rfl) (es_is (es_sl (ev_var rfl) (eo_some (ev_op ev_c (ev_var rfl) rv_I0)) eo_none (ex_t (E5.trans e6) hq)) (cut_end (.str w) (rest.map V.str) M) |> es_tupS) ?_ fun p H8 e8 hp => ?_
      · rw [hVl]
        exact Nat.lt_of_le_of_lt (Nat.le_trans hMle hfl) (by decide)
      · have E8 := (E5.trans e6).trans e8
        have hp2 : SqT K H8 p ((rest.drop M).map V.str) := by rw [List.map_drop]; exact hp
        have hpD : Ex H (upd H8 D (.lst (Vs ++ [.ref p]))) := E8.mut hDn
        refine fin [.t (rest.drop M)] [.ref p] _ _ hpD upd_same ?_ ?_ hri rfl rfl rfl rfl
        · have happ : ∀ {r : List Part} {vs : List V} {H0 : Hp}, Paired (PartAt K H0) r vs → ∀ {p v}, PartAt K H0 p v → Paired (PartAt K H0) (r ++ [p]) (vs ++ [v]) := fun h1 _ _ h2 => Paired.snoc h1 h2
          refine happ (hPA _) (.t ?_ (fun x hx => hg x (List.mem_cons_of_mem _ (List.mem_of_mem_drop hx))) (by rw [List.length_drop]; omega))
          exact sqt_upd hp2 (e8 _ _ (e6 _ _ hDl))
        · rw [List.length_append, hPl, List.length_singleton]; omega
    | false =>
      rw [ht] at hM hri
      have hM2 : form.length = M := hM
      simp only [Bool.false_eq_true, if_false] at hri
      refine q_when (b := false) (et_is (et_test (ev_op (ev_var rfl) (hlenF2 rfl) rv_I0)) (decide_eq_false (by omega))) (fun h => by cases h) (fun _ H6 e6 => ?_)
      have hA : Ps ++ ([] : List Part) = Ps := List.append_nil _
      refine fin [] [] _ _ (E5.trans e6) (by rw [List.append_nil]; exact e6 _ _ hDl) (by rw [List.append_nil, List.append_nil]; exact hPA _) (by rw [hA]; omega) hri rfl rfl rfl rfl
end
end Pk
set_option Elab.async false
set_option linter.all false
set_option maxRecDepth 100000
set_option maxHeartbeats 4000000
/-! Methods, instances, dict.update. -/
namespace Pk
open PySem PySem.Spec PyProof.Rows L2 Evl
theorem Txt.dm {w : World} {K : PySem.W.Frag} {mg : Str → Option Value} (T : Txt w K mg) (i : Nat) (c m q : Str) (n j : Nat) (h : defs[i]? = some (dM c m q n j)) :
    ∃ fd, FunD K m q (defArgs (inClass (top n) j)) (defBody (inClass (top n) j)) (defScope (inClass (top n) j)) [] [] (He.ma K (He.ga K c) m) fd := T.fn i _ h
structure Me (P : Program) (w : World) (K : PySem.W.Frag) (mg : Str → Option Value) (base : Heap) (CX : CXT) (k : Nat) (C : Addr) (m : Str) (sp : Sp) : Prop where
  ex : ∃ (f : Addr) (fd : FuncData) (ps : List Str), Cls K C ∧ Meth K C m f ∧ FnOk P w K mg base CX k f fd ps sp ∧ Binds K fd ps []
structure Mkr (P : Program) (w : World) (K : PySem.W.Frag) (mg : Str → Option Value) (base : Heap) (CX : CXT) (k : Nat) (x : Str) (sp : Sp) : Prop where
  ex : ∃ (f : Addr) (fd : FuncData) (ps : List Str), Mk K (He.ga K x) f ∧ FnOk P w K mg base CX k f fd ps sp ∧ mg x = some (.ref (He.ga K x)) ∧ Binds K fd ps []
section
variable {X : Cx} {k j : Nat} {C : Addr} {m x : Str} {sp : Sp} {p pos apos : Pos} {o e : Expr} {es : List Expr} {t : TA} {to : TE} {pl : Sem Bool}
theorem pm (c : Me X.prog X.w X.K X.mg X.base CX0 k C m sp) (hr : Room j X.A) (hk : k ≤ j) (ho : PE X o to) (ha : PA X (e :: es) t)
    (hst : starEach (e :: es) X.env = (false, eval e X.env) :: starEach es X.env := by rfl) (hpl : (backTo pos (starEach es X.env)).any (·.1) = false := by rfl)
    (ht : eval (.Call (.Attribute o m apos) (e :: es) [] pos) X.env = (do
      let ov ← eval o X.env
      standAt apos.atName
      let (f, first) ← holding [ov] (getMethod ov m pl)
      callWith pos f first (backTo pos (starEach (e :: es) X.env)) (backToKw pos (keywordEach [] X.env))) := by rfl) : PE X (.Call (.Attribute o m apos) (e :: es) [] pos) (tMeth C m sp [] E0 to t) := by
  obtain ⟨f, fd, ps, hc, hm, F, b⟩ := c.ex
  exact pe_meth ho hc hm F (hr.mono hk) b .nil pass0 ha hst hpl ht
theorem pm0 (c : Me X.prog X.w X.K X.mg X.base CX0 k C m sp) (hr : Room j X.A) (hk : k ≤ j) (ho : PE X o to)
    (ht : eval (.Call (.Attribute o m apos) [] [] pos) X.env = (do
      let ov ← eval o X.env
      standAt apos.atName
      let (f, first) ← holding [ov] (getMethod ov m pl)
      callWith pos f first (backTo pos (starEach [] X.env)) (backToKw pos (keywordEach [] X.env))) := by rfl) : PE X (.Call (.Attribute o m apos) [] [] pos) (tMeth C m sp [] E0 to tNil) := by
  obtain ⟨f, fd, ps, hc, hm, F, b⟩ := c.ex
  exact pe_meth0 ho hc hm F (hr.mono hk) b .nil pass0 ht
theorem pmk0 (c : Mkr X.prog X.w X.K X.mg X.base CX0 k x sp) (hr : Room j X.A) (hk : k + 1 ≤ j) (hg : Gl X x) (hdb : (x == ("__debug__" : Str)) = false := by decide) : PE X (.Call (.Name x p) [] [] pos) (tMake (He.ga X.K x) sp [] E0 tNil) := by
  obtain ⟨f, fd, ps, hm, F, hx, b⟩ := c.ex
  exact pe_make0 hm F (hr.mono hk) hg hx b .nil pass0 hdb
theorem pmk (c : Mkr X.prog X.w X.K X.mg X.base CX0 k x sp) (hr : Room j X.A) (hk : k + 1 ≤ j) (hg : Gl X x) (ha : PA X (e :: es) t) (hdb : (x == ("__debug__" : Str)) = false := by decide) (he : starEach (e :: es) X.env = (false, eval e X.env) :: starEach es X.env := by rfl)
    (hpl : (backTo pos (starEach es X.env)).any (·.1) = false := by rfl) : PE X (.Call (.Name x p) (e :: es) [] pos) (tMake (He.ga X.K x) sp [] E0 t) := by
  obtain ⟨f, fd, ps, hm, F, hx, b⟩ := c.ex
  exact pe_make hm F (hr.mono hk) hg hx b .nil pass0 ha hdb he hpl
end
section
variable {P : Program} {w : World} {K : PySem.W.Frag} {mg : Str → Option Value} {base : Heap}
theorem me0 {C : Addr} {m q : Str} {st : Stmt} {f : Addr} {fd : FuncData} {N ps : List Str} {k : Nat} {sp : Sp} (F : FunD K m q (defArgs st) (defBody st) (defScope st) [] [] f fd) (hc : Cls K C) (hm : Meth K C m f) (S : FnScope N ps (defScope st))
    (len : ∀ vs H Q E, sp vs H Q E → vs.length = ps.length)
    (b : ∀ (kV doc pm : Value) (an : Option Addr) (cdv ct : Value) (us : List Value), us.length = ps.length → bindArgs (PySem.W.fnOf m q (defArgs st) (defBody st) (defScope st) .none kV doc pm an cdv ct) ⟨us, []⟩ = pure (ps.zip us))
    (hbody : ∀ (cdv : Value) (A : Around) (outer : List Env) (s : Shared) (H : Hp) (vs : List V) (Q : VK) (E : XK), Room k (A.deeper (envOfC q (defScope st) s.heap.objs.size f cdv)) → sp vs H Q E →
      ∃ t, PSs (cxOf CX0 P w K mg base N q (defScope st) f cdv A outer s H E).nox (defBody st) t ∧ t { nx := fun _ H' => Q .non H', rt := Q } (start N vs) H) : Me P w K mg base CX0 (k + 1) C m sp :=
  ⟨f, fd, ps, hc, hm, F.ok S len fun cdv A outer s H vs Q E hr h => by
    obtain ⟨t, h1, h2⟩ := hbody cdv A outer s H vs Q E hr h
    exact ⟨t, h1.nox, h2⟩, F.bindsN b⟩
theorem mkr0 {x q : Str} {st : Stmt} {f : Addr} {fd : FuncData} {N ps : List Str} {k : Nat} {sp : Sp} (F : FunD K "__init__" q (defArgs st) (defBody st) (defScope st) [] [] f fd) (hm : Mk K (He.ga K x) f) (hg : mg x = some (.ref (He.ga K x))) (S : FnScope N ps (defScope st))
    (len : ∀ vs H Q E, sp vs H Q E → vs.length = ps.length)
    (b : ∀ (kV doc pm : Value) (an : Option Addr) (cdv ct : Value) (us : List Value), us.length = ps.length → bindArgs (PySem.W.fnOf "__init__" q (defArgs st) (defBody st) (defScope st) .none kV doc pm an cdv ct) ⟨us, []⟩ = pure (ps.zip us))
    (hbody : ∀ (cdv : Value) (A : Around) (outer : List Env) (s : Shared) (H : Hp) (vs : List V) (Q : VK) (E : XK), Room k (A.deeper (envOfC q (defScope st) s.heap.objs.size f cdv)) → sp vs H Q E →
      ∃ t, PSs (cxOf CX0 P w K mg base N q (defScope st) f cdv A outer s H E).nox (defBody st) t ∧ t { nx := fun _ H' => Q .non H', rt := Q } (start N vs) H) : Mkr P w K mg base CX0 (k + 1) x sp :=
  ⟨f, fd, ps, hm, F.ok S len fun cdv A outer s H vs Q E hr h => by
    obtain ⟨t, h1, h2⟩ := hbody cdv A outer s H vs Q E hr h
    exact ⟨t, h1.nox, h2⟩, hg, F.bindsN b⟩
end
/-! ### dict.update of a dict, no key in both -/
theorem merged_apart {κ : Type} [DecidableEq κ] : ∀ (more kvs : List (κ × Value)), (more.map (·.1)).Nodup → (∀ p ∈ more, ∀ q ∈ kvs, q.1 ≠ p.1) → merged kvs more = kvs ++ more
  | [], kvs, _, _ => by simp [merged]
  | p :: more, kvs, hn, h => by
    have hs : stored kvs p.1 p.2 = kvs ++ [p] := by
      unfold stored
      rw [if_neg]
      intro hc
      obtain ⟨q, hq, e⟩ := List.any_eq_true.mp hc
      exact h p (List.mem_cons_self ..) q hq (of_decide_eq_true e)
    have hn2 := List.nodup_cons.mp hn
    have ih := merged_apart more (kvs ++ [p]) hn2.2 fun r hr q hq => by
      rcases List.mem_append.mp hq with hq | hq
      · exact h r (List.mem_cons_of_mem _ hr) q hq
      · rw [List.mem_singleton.mp hq]
        intro e
        exact hn2.1 (List.mem_map.mpr ⟨r, hr, e.symm⟩)
    show merged (stored kvs p.1 p.2) more = _
    rw [hs, ih]
    simp
def rUpdate : V → List V → Hp → VK → Prop := fun x vs H Q => ∃ d o kvs more, x = .ref d ∧ vs = [.ref o] ∧ H d = some (.dK kvs) ∧ H o = some (.dK more) ∧ d ≠ o ∧ kvs.length + more.length ≤ sizeLine ∧ (∀ p ∈ more, ∀ q ∈ kvs, q.1 ≠ p.1) ∧ Q .non (upd H d (.dK (kvs ++ more)))
theorem kv_keys {kvs : List (L2.Key × V)} {vs : List (L2.Key × Value)} (h : KV kvs vs) : kvs.map (·.1) = vs.map (·.1) := by
  induction h with
  | nil => rfl
  | cons h t ih => rw [List.map_cons, List.map_cons, ih, h.1]
theorem kv_app : ∀ {a b : List (L2.Key × V)} {c d : List (L2.Key × Value)}, KV a c → KV b d → KV (a ++ b) (c ++ d)
  | _, _, _, _, .nil, h => h
  | _, _, _, _, .cons x t, h => .cons x (kv_app t h)
theorem mt_update {X : Cx} : MtM X "dict.update" rUpdate := by
  intro pins s σ H x vs v us Q I rx rv h
  obtain ⟨d, o, kvs, more, rfl, rfl, hd, ho, hne, hz, hap, q⟩ := h
  cases rx
  obtain ⟨u, rfl, ru⟩ := rv.one
  cases ru
  obtain ⟨z1, s1, v1, k1, D1⟩ := I.hok d _ hd
  obtain ⟨z2, s2, v2, k2, D2⟩ := I.hok o _ ho
  have l1 := Paired.length k1
  have l2 := Paired.length k2
  refine call_meetsIn F.slot_dict_update D1.typeIs F.entry_dict_update (F.args_dict_update_2 _ _) (meets_dict_update (mixKind X.prog X.w) d o hne s2) ⟨v1, v2, D1, D2, by omega, fun h' D1' D2' sb => ?_⟩
  have hap2 : ∀ p ∈ v2, ∀ q ∈ v1, q.1 ≠ p.1 := fun p hp q hq e => by
    have m1 : q.1 ∈ kvs.map (·.1) := by rw [kv_keys k1]; exact List.mem_map.mpr ⟨q, hq, rfl⟩
    have m2 : p.1 ∈ more.map (·.1) := by rw [kv_keys k2]; exact List.mem_map.mpr ⟨p, hp, rfl⟩
    obtain ⟨q', hq', e1⟩ := List.mem_map.mp m1
    obtain ⟨p', hp', e2⟩ := List.mem_map.mp m2
    exact hap p' hp' q' hq' (e1.trans (e.trans e2.symm))
  have hn2 : (v2.map (·.1)).Nodup := by
    obtain ⟨_, _, _, _, _, _, _, _, hn⟩ := id D2
    exact hn
  rw [merged_apart v2 v1 hn2 hap2] at D1'
  obtain ⟨o', es', ep', ho', _⟩ := id D1'
  have kvv : KV (kvs ++ more) (v1 ++ v2) := kv_app k1 k2
  have hob : ∃ u, h'.get? d = some u := ⟨_, ho'⟩
  have new : ObjOk X.prog X.w (upd H d (.dK (kvs ++ more))) h' d (.dK (kvs ++ more)) := ⟨by rw [List.length_append]; exact hz, s1, v1 ++ v2, kvv, D1'⟩
  exact ⟨.non, _, I.write (x := d) (e := d) (t' := _) (by rw [hd]; exact True.intro) (.inl rfl) (fun b u hb e => (sb.2 b hb).trans e) hob new, rfl, q⟩
end Pk
set_option Elab.async false
set_option linter.all false
set_option maxRecDepth 100000
set_option maxHeartbeats 4000000
/-! Dict comprehensions; comprehensions over a dict's views; fields set. -/
namespace Pk
open PySem PySem.Spec PyProof.Rows L2 Evl
theorem pe_fldK {X : Cx} {K : PySem.W.Frag} {e : Expr} {f : Str} {pos : Pos} {ta : TE} (hK : X.K = K) (he : PE X e ta) (hb : attributeBase e f X.env (eval e X.env) = eval e X.env) : PE X (.Attribute e f pos) (tFld K ta f) := by
  subst hK
  exact pe_fld he hb
section
variable {K : PySem.W.Frag} {σ : L2.St} {H H' : Hp} {ta tb tc te tx tk tv : TE} {t u : TT} {x y z v : V} {D : Ends} {tu tw tz : TS} {g : TG}
/-- a new dict -/
def EvD (te : TE) (σ : L2.St) (H : Hp) (kvs : List (L2.Key × V)) : Prop := ∀ H1, Ex H H1 → ∀ Q : VK, (∀ p H2, H1 p = none → Ex H1 H2 → H2 p = some (.dK kvs) → Q (.ref p) H2) → te σ H1 Q
theorem frz_ex {H H1 : Hp} {d : Addr} {o : HO} (e : Ex H H1) : Ex (upd H d o) (upd H1 d o) := fun b w hb => by
  by_cases h : b = d
  · subst h
    rw [upd_same] at hb ⊢
    exact hb
  · rw [upd_ne h] at hb ⊢
    exact e b w hb
theorem unfrz_ex {H1 H2 : Hp} {d : Addr} {u o : HO} (hd : H1 d = some u) (e : Ex (upd H1 d o) H2) : Ex H1 (upd H2 d u) := fun b w hb => by
  by_cases h : b = d
  · subst h
    rw [hd] at hb
    rw [upd_same]
    exact hb
  · rw [upd_ne h]
    exact e b w (by rw [upd_ne h]; exact hb)
theorem el_lock {xs : List V} {d : Addr} {u : HO} (hd : H d = some u) (mu : Mut (some u)) (h : ∀ od, EvL te σ (upd H d (.frz od u)) xs) : EvL (tLockE te) σ H xs := fun H1 e Q q => ⟨d, u, e _ _ hd, mu, fun od =>
  h od _ (frz_ex e) _ fun p H2 hp e2 h2 => by
    have hpd : p ≠ d := fun z => by subst z; rw [upd_same] at hp; cases hp
    rw [upd_ne hpd] at hp
    exact ⟨e2 _ _ upd_same, q p _ hp (unfrz_ex (e _ _ hd) e2) (by rw [upd_ne hpd]; exact h2)⟩⟩
theorem ed_lock {kvs : List (L2.Key × V)} {d : Addr} {u : HO} (hd : H d = some u) (mu : Mut (some u)) (h : ∀ od, EvD te σ (upd H d (.frz od u)) kvs) : EvD (tLockE te) σ H kvs := fun H1 e Q q => ⟨d, u, e _ _ hd, mu, fun od =>
  h od _ (frz_ex e) _ fun p H2 hp e2 h2 => by
    have hpd : p ≠ d := fun z => by subst z; rw [upd_same] at hp; cases hp
    rw [upd_ne hpd] at hp
    exact ⟨e2 _ _ upd_same, q p _ hp (unfrz_ex (e _ _ hd) e2) (by rw [upd_ne hpd]; exact h2)⟩⟩
/-- what a dict comprehension gives: turn i its entry -/
def gvd (n : Nat) (f : Nat → Option (L2.Key × V)) : List (L2.Key × V) := (List.range n).filterMap f
theorem gvd_len (n : Nat) (f : Nat → Option (L2.Key × V)) : (gvd n f).length ≤ n := by
  unfold gvd
  have := List.length_filterMap_le f (List.range n)
  rwa [List.length_range] at this
theorem gvd_yes {n : Nat} {f : Nat → Option (L2.Key × V)} {y : L2.Key × V} (h : f n = some y) : gvd (n + 1) f = gvd n f ++ [y] := by
  unfold gvd
  rw [List.range_succ, List.filterMap_append]
  simp [h]
theorem gvd_no {n : Nat} {f : Nat → Option (L2.Key × V)} (h : f n = none) : gvd (n + 1) f = gvd n f := by
  unfold gvd
  rw [List.range_succ, List.filterMap_append]
  simp [h]
theorem gvd_mem {n : Nat} {f : Nat → Option (L2.Key × V)} {y : L2.Key × V} (h : y ∈ gvd n f) : ∃ i, i < n ∧ f i = some y := by
  obtain ⟨i, hi, e⟩ := List.mem_filterMap.mp h
  exact ⟨i, List.mem_range.mp hi, e⟩
theorem putK_new {kvs : List (L2.Key × V)} {k : L2.Key} {v : V} (h : ∀ q ∈ kvs, q.1 ≠ k) : putK kvs k v = kvs ++ [(k, v)] := by
  unfold putK
  rw [if_neg]
  intro hc
  obtain ⟨q, hq, e⟩ := List.any_eq_true.mp hc
  exact h q hq (of_decide_eq_true e)
/-- over any walk that only adds to the heap; the keys apart -/
theorem ed_dc {wi : TI} {J : It} {n : Nat} {G : Hp → Prop} {Y : Nat → Hp → V → Hp → Prop} {vs : List Nat} (wk : Walk J n G Y) (hn : n ≤ sizeLine) (f : Nat → Option (L2.Key × V)) (hap : ∀ i j p q, i < j → j < n → f i = some p → f j = some q → p.1 ≠ q.1)
    (hwi : ∀ H1, Ex H H1 → ∀ R : It → Hp → Prop, (∀ H2, Ex H1 H2 → R J H2) → wi σ H1 R) (hG : ∀ H1, Ex H H1 → G H1)
    (hs2 : ∀ (i : Nat) (x : V) (H0 H' : Hp) (R : V → V → Hp → Prop) (S : Hp → Prop), i < n → Ex H H0 → Y i H0 x H' → (∀ k v H4, f i = some (k, v) → Ex H0 H4 → R (kV k) v H4) → (f i = none → ∀ H3, Ex H0 H3 → S H3) →
      g x (wipe σ vs) H' fun σ2 H2 => wipe σ2 vs = wipe σ vs ∧ t σ2 H2 fun b H3 => if b = true then tk σ2 H3 fun y H4 => tv σ2 H4 fun z H5 => R y z H5 else S H3) :
    EvD (tDc wi g t tk tv vs) σ H (gvd n f) := fun H1 e Q q => hwi H1 e _ fun H2 e2 D hD => by
  refine ⟨fun i m H0 => m = n - i ∧ i ≤ n ∧ Ex H2 H0 ∧ H0 D = some (.dK (gvd i f)), ⟨n, by simp, Nat.zero_le _, Ex.new hD, upd_same⟩, ?_⟩
  rintro i m H0 ⟨rfl, hi, e0, h0⟩
  have E0 := (e.trans e2).trans e0
  by_cases hlt : i < n
  · refine .inr ⟨wk.goes i H0 hlt (hG H0 E0), fun H3 => Ex H2 H3 ∧ H3 D = some (.dK (gvd (i + 1) f)), fun H3 p => ⟨n - (i + 1), by omega, rfl, hlt, p⟩, fun x H' y => ?_⟩
    refine hs2 i x H0 H' _ _ hlt E0 (wk.yields i H0 x H' hlt (hG H0 E0) y) (fun k v H4 hf e4 => ⟨gvd i f, k, rfl, e4 _ _ h0, ?_, (e0.trans e4).mut hD, ?_⟩) (fun hf H3 e3 => ⟨e0.trans e3, ?_⟩)
    · have := gvd_len i f
      omega
    · rw [upd_same, putK_new fun p hp ek => ?_, gvd_yes hf]
      obtain ⟨j, hj, ej⟩ := gvd_mem hp
      exact hap j i p (k, v) hj hlt ej hf ek
    · rw [gvd_no hf]
      exact e3 _ _ h0
  · have e1 : i = n := by omega
    subst e1
    exact .inl ⟨wk.stops H0 (hG H0 E0), q D H0 (fresh_back e2 hD) (e2.trans e0) h0⟩
theorem gvd_map {α : Type} (xs : List α) (f : α → Option (L2.Key × V)) (h : Nat → Option (L2.Key × V)) (e : ∀ i x, xs[i]? = some x → h i = f x) : gvd xs.length h = xs.filterMap f := by
  unfold gvd
  have key : ∀ (l : List α) (k : Nat), (∀ i x, l[i]? = some x → h (k + i) = f x) → (List.range' k l.length).filterMap h = l.filterMap f := by
    intro l
    induction l with
    | nil => intro k _; rfl
    | cons a l ih =>
      intro k hk
      have h0 : h k = f a := hk 0 a rfl
      have ih2 := ih (k + 1) fun i x hx => by
        have := hk (i + 1) x (by simpa using hx)
        rw [← this]
        congr 1
        omega
      rw [List.length_cons, List.range'_succ, List.filterMap_cons, List.filterMap_cons, ih2, h0]
  rw [List.range_eq_range']
  exact key xs 0 fun i x hx => by rw [Nat.zero_add]; exact e i x hx
/-! ### fields -/
theorem s_fld {a C dx : Addr} {fs : List (Str × V)} {f : Str} (h : Ev tv σ H v) (ho : Ev ta σ H (.ref a)) (ha : H a = some (.ins C dx fs)) (c : Cls K C) (n : NoAttr K C f) (hl : fs.length < 1000) (k : ∀ H1, Ex H H1 → D.nx σ (upd H1 a (.ins C dx (putF f v fs)))) : sFld K ta tv f D σ H :=
  h H (Ex.refl _) _ fun H1 e1 => ho H1 e1 _ fun H2 e2 => ⟨a, C, dx, fs, rfl, (e1.trans e2) _ _ ha, c, n, hl, k H2 (e1.trans e2)⟩
theorem q_fld {a C dx : Addr} {fs : List (Str × V)} {f : Str} (h : Ev tv σ H v) (ho : Ev ta σ H (.ref a)) (ha : H a = some (.ins C dx fs)) (c : Cls K C) (n : NoAttr K C f) (hl : fs.length < 1000) (k : ∀ H1, Ex H H1 → tz D σ (upd H1 a (.ins C dx (putF f v fs)))) : tSeq (sFld K ta tv f) tz D σ H :=
  s_fld (D := { D with nx := tz D }) h ho ha c n hl k
/-- a new dict into a field -/
theorem s_fldD {a C dx : Addr} {fs : List (Str × V)} {f : Str} {kvs : List (L2.Key × V)} (h : EvD tv σ H kvs) (ho : Ev ta σ H (.ref a)) (ha : H a = some (.ins C dx fs)) (c : Cls K C) (n : NoAttr K C f) (hl : fs.length < 1000)
    (k : ∀ p H1, H p = none → Ex H H1 → H1 p = some (.dK kvs) → D.nx σ (upd H1 a (.ins C dx (putF f (.ref p) fs)))) : sFld K ta tv f D σ H :=
  h H (Ex.refl _) _ fun p H1 hp e1 h1 => ho H1 e1 _ fun H2 e2 => ⟨a, C, dx, fs, rfl, (e1.trans e2) _ _ ha, c, n, hl, k p H2 hp (e1.trans e2) (e2 _ _ h1)⟩
theorem q_fldD {a C dx : Addr} {fs : List (Str × V)} {f : Str} {kvs : List (L2.Key × V)} (h : EvD tv σ H kvs) (ho : Ev ta σ H (.ref a)) (ha : H a = some (.ins C dx fs)) (c : Cls K C) (n : NoAttr K C f) (hl : fs.length < 1000)
    (k : ∀ p H1, H p = none → Ex H H1 → H1 p = some (.dK kvs) → tz D σ (upd H1 a (.ins C dx (putF f (.ref p) fs)))) : tSeq (sFld K ta tv f) tz D σ H :=
  s_fldD (D := { D with nx := tz D }) h ho ha c n hl k
theorem s_asgSub {o i : V} {to ti : TE} {ts : TSet} (hv : Ev tv σ H v) (ho : Ev to σ H o) (hi : Ev ti σ H i) (k : ∀ H1, Ex H H1 → ts o i v H1 fun H3 => D.nx σ H3) : tAsg tv (gSub to ti ts) D σ H :=
  hv H (Ex.refl _) _ fun H1 e1 => ho H1 e1 _ fun H2 e2 => hi H2 (e1.trans e2) _ fun H3 e3 => k H3 ((e1.trans e2).trans e3)
theorem q_asgSub {o i : V} {to ti : TE} {ts : TSet} (hv : Ev tv σ H v) (ho : Ev to σ H o) (hi : Ev ti σ H i) (k : ∀ H1, Ex H H1 → ts o i v H1 fun H3 => tz D σ H3) : tSeq (tAsg tv (gSub to ti ts)) tz D σ H :=
  s_asgSub (D := { D with nx := tz D }) hv ho hi k
theorem putF_len (f : Str) (v : V) (fs : List (Str × V)) : (putF f v fs).length ≤ fs.length + 1 := length_putF f v fs
theorem q_update {to : TE} {d : Addr} {kvs more : List (L2.Key × V)} (hd : H d = some (.dK kvs)) (ho : Ev to σ H (.ref d)) (h : EvD te σ H more) (hz : kvs.length + more.length ≤ sizeLine) (hap : ∀ p ∈ more, ∀ q ∈ kvs, q.1 ≠ p.1) (k : ∀ H1, Ex H H1 → tz D σ (upd H1 d (.dK (kvs ++ more)))) :
    tSeq (tDrop (tBM K "dict" rUpdate to (tCons te tNil))) tz D σ H :=
  ho H (Ex.refl _) _ fun H1 e1 => ⟨.inr (.inr (.inl ⟨rfl, .inl ⟨_, e1 _ _ hd⟩⟩)), h H1 e1 _ fun p H2 hp e2 hpd => ⟨d, p, kvs, more, rfl, rfl, (e1.trans e2) _ _ hd, hpd, (fun e => by
    subst e
    rw [e1 _ _ hd] at hp
    cases hp), hz, hap, k H2 (e1.trans e2)⟩⟩
theorem s_asg3 {kvs : List (L2.Key × V)} (h1 : Ev ta σ H x) (h2 : Ev tb σ H y) (h3 : EvD tc σ H kvs) (k : ∀ p q H1, H p = none → Ex H H1 → H1 p = some (.dK kvs) → H1 q = some (.tup [x, y, .ref p]) → g (.ref q) σ H1 D.nx) : tAsg (tTup (tCons ta (tCons tb (tCons tc tNil)))) g D σ H :=
  h1 H (Ex.refl _) _ fun H1 e1 => h2 H1 e1 _ fun H2 e2 => h3 H2 (e1.trans e2) _ fun p H3 hp e3 hpd => ⟨by show 3 ≤ sizeLine; decide, fun q hq => by
    have hpq : p ≠ q := fun e => by
      subst e
      rw [hq] at hpd
      cases hpd
    exact k p q _ (fresh_back (e1.trans e2) hp) (((e1.trans e2).trans e3).trans (Ex.new hq)) (by rw [upd_ne hpq]; exact hpd) upd_same⟩
theorem g_fld {a C dx : Addr} {fs : List (Str × V)} {f : Str} {Q : L2.St → Hp → Prop} (ho : Ev ta σ H (.ref a)) (ha : H a = some (.ins C dx fs)) (c : Cls K C) (n : NoAttr K C f) (hl : fs.length < 1000) (k : ∀ H1, Ex H H1 → Q σ (upd H1 a (.ins C dx (putF f v fs)))) : gFld K ta f v σ H Q :=
  ho H (Ex.refl _) _ fun H1 e1 => ⟨a, C, dx, fs, rfl, e1 _ _ ha, c, n, hl, k H1 e1⟩
/-- what an expression may give, and what the heap is then -/
def EvR (te : TE) (σ : L2.St) (H : Hp) (R : V → Hp → Prop) : Prop := ∀ Q : VK, (∀ v H1, R v H1 → Q v H1) → te σ H Q
def EtR (t : TT) (σ : L2.St) (H : Hp) (R : Bool → Hp → Prop) : Prop := ∀ Q : Bool → Hp → Prop, (∀ b H1, R b H1 → Q b H1) → t σ H Q
theorem s_asgR {i : Nat} {R : V → Hp → Prop} (h : EvR te σ H R) (k : ∀ v H1, R v H1 → D.nx (σ.set i (some v)) H1) : tAsg te (gName i) D σ H := h _ k
theorem q_asgR {i : Nat} {R : V → Hp → Prop} (h : EvR te σ H R) (k : ∀ v H1, R v H1 → tz D (σ.set i (some v)) H1) : tSeq (tAsg te (gName i)) tz D σ H := h _ k
theorem s_asgGR {R : V → Hp → Prop} (h : EvR te σ H R) (k : ∀ v H1, R v H1 → g v σ H1 D.nx) : tAsg te g D σ H := h _ k
theorem q_asgGR {R : V → Hp → Prop} (h : EvR te σ H R) (k : ∀ v H1, R v H1 → g v σ H1 (tz D)) : tSeq (tAsg te g) tz D σ H := h _ k
theorem s_retR {R : V → Hp → Prop} (h : EvR te σ H R) (k : ∀ v H1, R v H1 → D.rt v H1) : tRet te D σ H := h _ k
theorem q_dropR {R : V → Hp → Prop} (h : EvR te σ H R) (k : ∀ v H1, R v H1 → tz D σ H1) : tSeq (tDrop te) tz D σ H := h _ k
theorem s_dropR {R : V → Hp → Prop} (h : EvR te σ H R) (k : ∀ v H1, R v H1 → D.nx σ H1) : tDrop te D σ H := h _ k
theorem s_ifR {R : Bool → Hp → Prop} (h : EtR t σ H R) (h1 : ∀ H1, R true H1 → tu D σ H1) (h2 : ∀ H1, R false H1 → tw D σ H1) : tIfS t tu tw D σ H := h _ fun b H1 r => by
  cases b with
  | true => exact h1 H1 r
  | false => exact h2 H1 r
theorem q_ifR {R : Bool → Hp → Prop} (h : EtR t σ H R) (h1 : ∀ H1, R true H1 → tu { D with nx := tz D } σ H1) (h2 : ∀ H1, R false H1 → tw { D with nx := tz D } σ H1) : tSeq (tIfS t tu tw) tz D σ H := s_ifR (D := { D with nx := tz D }) h h1 h2
theorem s_whenR {R : Bool → Hp → Prop} (h : EtR t σ H R) (h1 : ∀ H1, R true H1 → tu D σ H1) (h2 : ∀ H1, R false H1 → D.nx σ H1) : tIfS t tu tNext D σ H := s_ifR h h1 h2
theorem q_whenR {R : Bool → Hp → Prop} (h : EtR t σ H R) (h1 : ∀ H1, R true H1 → tu { D with nx := tz D } σ H1) (h2 : ∀ H1, R false H1 → tz D σ H1) : tSeq (tIfS t tu tNext) tz D σ H := s_ifR (D := { D with nx := tz D }) h h1 h2
theorem or_R {b : Bool} {R : Bool → Hp → Prop} (h : EvT t σ H b) (h1 : b = true → ∀ H1, Ex H H1 → R true H1) (h2 : b = false → ∀ H1, Ex H H1 → EtR u σ H1 R) : EtR (tOr t u) σ H R := fun Q q => h H (Ex.refl _) _ fun H1 e1 => by
  cases b with
  | true => exact q true H1 (h1 rfl H1 e1)
  | false => exact h2 rfl H1 e1 Q q
theorem orR_R {R S : Bool → Hp → Prop} (h : EtR t σ H S) (h1 : ∀ H1, S true H1 → R true H1) (h2 : ∀ H1, S false H1 → EtR u σ H1 R) : EtR (tOr t u) σ H R := fun Q q => h _ fun b H1 s => by
  cases b with
  | true => exact q true H1 (h1 H1 s)
  | false => exact h2 H1 s Q q
theorem andR_R {R S : Bool → Hp → Prop} (h : EtR t σ H S) (h1 : ∀ H1, S false H1 → R false H1) (h2 : ∀ H1, S true H1 → EtR u σ H1 R) : EtR (tAnd t u) σ H R := fun Q q => h _ fun b H1 s => by
  cases b with
  | true => exact h2 H1 s Q q
  | false => exact q false H1 (h1 H1 s)
theorem not_R {R : Bool → Hp → Prop} (h : EtR t σ H fun b H1 => R (!b) H1) : EtR (tNot t) σ H R := fun Q q => h _ fun b H1 r => q (!b) H1 r
theorem tB_R {R : Bool → Hp → Prop} (h : EvR te σ H fun v H1 => ∃ b, v = .bl b ∧ R b H1) : EtR (tB te) σ H R := fun Q q => h _ fun v H1 r => by
  obtain ⟨b, e, r⟩ := r
  exact ⟨b, e, q b H1 r⟩
theorem tTest_R {R : Bool → Hp → Prop} (h : EvR te σ H fun v H1 => ∃ b, v = .bl b ∧ R b H1) : EtR (tTest te) σ H R := fun Q q => h _ fun v H1 r => by
  obtain ⟨b, e, r⟩ := r
  exact ⟨b, e, q b H1 r⟩
theorem et_R {b : Bool} (h : EvT t σ H b) : EtR t σ H fun c H1 => c = b ∧ Ex H H1 := fun Q q => h H (Ex.refl _) Q fun H1 e => q b H1 ⟨rfl, e⟩
theorem ev_R (h : Ev te σ H v) : EvR te σ H fun x H1 => x = v ∧ Ex H H1 := fun Q q => h H (Ex.refl _) Q fun H1 e => q v H1 ⟨rfl, e⟩
theorem EvR.imp {R S : V → Hp → Prop} (h : EvR te σ H R) (i : ∀ v H1, R v H1 → S v H1) : EvR te σ H S := fun Q q => h Q fun v H1 r => q v H1 (i v H1 r)
theorem EtR.imp {R S : Bool → Hp → Prop} (h : EtR t σ H R) (i : ∀ v H1, R v H1 → S v H1) : EtR t σ H S := fun Q q => h Q fun v H1 r => q v H1 (i v H1 r)
theorem q_parR {i j : Nat} {R : V → Hp → Prop} {S : V → V → Hp → Prop} (h : EvR ta σ H R) (h2 : ∀ v H1, R v H1 → EvR tb σ H1 (S v)) (k : ∀ v w H1, S v w H1 → tz D ((σ.set i (some v)).set j (some w)) H1) : tSeq (tPar i j (tCons ta (tCons tb tNil))) tz D σ H :=
  h _ fun v H1 r => h2 v H1 r _ fun w H2 s => ⟨v, w, rfl, k v w H2 s⟩
theorem lst0_R : EvR (tLst tNil) σ H fun v H' => ∃ p, v = .ref p ∧ H p = none ∧ H' = upd H p (.lst []) := fun Q q => ⟨Nat.zero_le _, fun p hp => q _ _ ⟨p, rfl, hp, rfl⟩⟩
theorem hwi_enum {p : Addr} {xs : List V} (h : Ev te σ H (.ref p)) (hp : SqL K H p xs) (R : It → Hp → Prop) (k : ∀ H1, Ex H H1 → R (Ite K p) H1) : iEnum K (tCons te tNil) σ H R :=
  h H (Ex.refl H) _ fun H2 e2 => ⟨p, xs, rfl, ex_l e2 hp, k H2 e2⟩
theorem ed_new : EvD tDNewK σ H [] := fun H1 e Q q => fun p hp => q p _ hp (Ex.new hp) upd_same
theorem q_fldX {P : Program} {w : World} {a C dx : Addr} {fs : List (Str × V)} {f : Str} (ho : Ev ta σ H (.ref a)) (ha : H a = some (.ins C dx fs)) (c : Cls K C) (n : NoAttr K C f) (hl : fs.length < 1000)
    (k : ∀ p H1, H p = none → Ex H H1 → H1 p = some (.ext (RawD P w p [])) → tz D σ (upd H1 a (.ins C dx (putF f (.ref p) fs)))) : tSeq (sFld K ta (tDNewX P w) f) tz D σ H :=
  fun p hp => ho _ (Ex.new hp) _ fun H2 e2 => ⟨a, C, dx, fs, rfl, ((Ex.new hp).trans e2) _ _ ha, c, n, hl, k p H2 hp ((Ex.new hp).trans e2) (e2 _ _ upd_same)⟩
theorem s_fldaug {a C dx : Addr} {fs : List (Str × V)} {f : Str} {i j r : Int} {rd : V → V → Hp → VK → Prop} (ho : Ev ta σ H (.ref a)) (ha : H a = some (.ins C dx fs)) (c : Cls K C) (n : NoAttr K C f) (hf : fs.lookup f = some (.int i)) (h : Ev tv σ H (.int j)) (hl : fs.length < 1000)
    (hr : ∀ H1 (Q : VK), Q (.int r) H1 → rd (.int i) (.int j) H1 Q) (k : ∀ H1, Ex H H1 → D.nx σ (upd H1 a (.ins C dx (putF f (.int r) fs)))) : sFldAug K ta tv rd f D σ H :=
  ho H (Ex.refl _) _ fun H1 e1 => ⟨a, C, dx, fs, .int i, rfl, e1 _ _ ha, c, n, hf, h H1 e1 _ fun H2 e2 => hr H2 _ ⟨dx, fs, (e1.trans e2) _ _ ha, hl, k H2 (e1.trans e2)⟩⟩
theorem q_fldaug {a C dx : Addr} {fs : List (Str × V)} {f : Str} {i j r : Int} {rd : V → V → Hp → VK → Prop} (ho : Ev ta σ H (.ref a)) (ha : H a = some (.ins C dx fs)) (c : Cls K C) (n : NoAttr K C f) (hf : fs.lookup f = some (.int i)) (h : Ev tv σ H (.int j)) (hl : fs.length < 1000)
    (hr : ∀ H1 (Q : VK), Q (.int r) H1 → rd (.int i) (.int j) H1 Q) (k : ∀ H1, Ex H H1 → tz D σ (upd H1 a (.ins C dx (putF f (.int r) fs)))) : tSeq (sFldAug K ta tv rd f) tz D σ H :=
  s_fldaug (D := { D with nx := tz D }) ho ha c n hf h hl hr k
end
end Pk
set_option Elab.async false
set_option linter.all false
set_option maxRecDepth 100000
set_option maxHeartbeats 4000000
namespace Pk
open PySem PySem.Spec PyProof.Rows L2 Evl
/-! ### a shape as a value -/
def colV : Option Int → V
  | none => .non
  | some i => .int i
def shFs (s : Sh) (dr dc : Addr) : List (Str × V) := [("ruled", .ref dr), ("begun", .bl s.begun), ("whens", .int s.whens), ("columns", colV s.columns), ("lines", .int s.lines), ("cover", .ref dc)]
def covK (l : List (Int × Int)) : List (L2.Key × V) := l.map fun q => (.inl q.1, .int q.2)
section
variable {P : Program} {w : World} {K : PySem.W.Frag} {mg : Str → Option Value} {base : Heap}
structure ShAt (P : Program) (w : World) (K : PySem.W.Frag) (H : Hp) (s : Sh) (a dr dc : Addr) : Prop where
  at_ : ∃ dx, H a = some (.ins (He.ga K "Shape") dx (shFs s dr dc))
  ru : Ruled P w K H dr s.ruled
  co : H dc = some (.dK (covK s.cover))
/-- what stays -/
def Mv (a dr dc : Addr) (H H' : Hp) : Prop := ∀ b o, b ≠ a → b ≠ dr → b ≠ dc → H b = some o → H' b = some o
theorem Mv.refl {a dr dc : Addr} {H : Hp} : Mv a dr dc H H := fun _ _ _ _ _ h => h
theorem Mv.trans {a dr dc : Addr} {H H1 H2 : Hp} (h : Mv a dr dc H H1) (h2 : Mv a dr dc H1 H2) : Mv a dr dc H H2 := fun b o x y z e => h2 b o x y z (h b o x y z e)
theorem Mv.ex {a dr dc : Addr} {H H1 : Hp} (h : Ex H H1) : Mv a dr dc H H1 := fun b o _ _ _ e => h b o e
theorem Mv.upd_a {a dr dc : Addr} {H H1 : Hp} {o : HO} (h : Mv a dr dc H H1) : Mv a dr dc H (upd H1 a o) := fun b u x y z e => by rw [upd_ne x]; exact h b u x y z e
theorem Mv.upd_r {a dr dc : Addr} {H H1 : Hp} {o : HO} (h : Mv a dr dc H H1) : Mv a dr dc H (upd H1 dr o) := fun b u x y z e => by rw [upd_ne y]; exact h b u x y z e
theorem Mv.upd_c {a dr dc : Addr} {H H1 : Hp} {o : HO} (h : Mv a dr dc H H1) : Mv a dr dc H (upd H1 dc o) := fun b u x y z e => by rw [upd_ne z]; exact h b u x y z e
/-- a tuple stays -/
theorem Mv.sqt {s : Sh} {a dr dc p : Addr} {H H1 : Hp} {xs : List V} (S : ShAt P w K H s a dr dc) (h : Mv a dr dc H H1) (hp : SqT K H p xs) : SqT K H1 p xs := by
  obtain ⟨dx, h1⟩ := S.at_
  obtain ⟨_, h2, _⟩ := S.ru
  have h3 := S.co
  rcases hp with hp | hp
  · refine Or.inl ?_
    rcases hp with hp | ⟨o, hp⟩
    · exact Or.inl (h p _ (fun e => by subst e; rw [h1] at hp; cases hp) (fun e => by subst e; rw [h2] at hp; cases hp) (fun e => by subst e; rw [h3] at hp; cases hp) hp)
    · exact Or.inr ⟨o, h p _ (fun e => by subst e; rw [h1] at hp; cases hp) (fun e => by subst e; rw [h2] at hp; cases hp) (fun e => by subst e; rw [h3] at hp; cases hp) hp⟩
  · exact Or.inr hp
theorem sqt_ne {p a : Addr} {H : Hp} {xs : List V} {o o' : HO} (hp : SqT K H p xs) (ha : H a = some o) (hn : ∀ ys, o ≠ .tup ys) (hn2 : ∀ q ys, o ≠ .frz q (.tup ys)) : SqT K (upd H a o') p xs := by
  rcases hp with hp | hp
  · refine Or.inl ?_
    rcases hp with hp | ⟨q, hp⟩
    · have e : p ≠ a := fun e => by subst e; rw [ha] at hp; injection hp with hp; exact hn _ hp
      exact Or.inl (by rw [upd_ne e]; exact hp)
    · have e : p ≠ a := fun e => by subst e; rw [ha] at hp; injection hp with hp; exact hn2 _ _ hp
      exact Or.inr ⟨q, by rw [upd_ne e]; exact hp⟩
  · exact Or.inr hp
theorem Ruled.mono {H H1 : Hp} {d : Addr} {ks : List Rk} (h : Ruled P w K H d ks) (hd : ∀ o, H d = some o → H1 d = some o) (ht : ∀ p xs, SqT K H p xs → SqT K H1 p xs) : Ruled P w K H1 d ks := by
  obtain ⟨xs, h1, h2⟩ := h
  exact ⟨xs, hd _ h1, Paired.mono (fun a b h => ⟨h.1, ht _ _ h.2⟩) h2⟩
theorem ShAt.ne {H : Hp} {s : Sh} {a dr dc : Addr} (S : ShAt P w K H s a dr dc) : dr ≠ a ∧ dc ≠ a ∧ dc ≠ dr := by
  obtain ⟨dx, h1⟩ := S.at_
  obtain ⟨_, h2, _⟩ := S.ru
  have h3 := S.co
  refine ⟨fun e => ?_, fun e => ?_, fun e => ?_⟩
  · subst e; rw [h1] at h2; cases h2
  · subst e; rw [h1] at h3; cases h3
  · subst e; rw [h2] at h3; cases h3
theorem ShAt.ex {H H1 : Hp} {s : Sh} {a dr dc : Addr} (e : Ex H H1) (S : ShAt P w K H s a dr dc) : ShAt P w K H1 s a dr dc := by
  obtain ⟨dx, h1⟩ := S.at_
  exact ⟨⟨dx, e _ _ h1⟩, S.ru.mono (fun o h => e _ _ h) (fun p xs h => ex_t e h), e _ _ S.co⟩
/-- a field of it is set -/
theorem ShAt.set {H : Hp} {s s' : Sh} {a dr dc dc' dx : Addr} (S : ShAt P w K H s a dr dc) (hr : s'.ruled = s.ruled) (hc : H dc' = some (.dK (covK s'.cover))) : ShAt P w K (upd H a (.ins (He.ga K "Shape") dx (shFs s' dr dc'))) s' a dr dc' := by
  obtain ⟨dx0, h1⟩ := S.at_
  obtain ⟨n1, n2, n3⟩ := S.ne
  have n4 : dc' ≠ a := fun e => by subst e; rw [h1] at hc; cases hc
  refine ⟨⟨dx, upd_same⟩, ?_, by rw [upd_ne n4]; exact hc⟩
  rw [hr]
  exact S.ru.mono (fun o h => by rw [upd_ne n1]; exact h) (fun p xs h => sqt_ne h h1 (fun _ h => by cases h) (fun _ _ h => by cases h))
/-- self.f -/
theorem ev_fld {σ : L2.St} {H : Hp} {te : TE} {s : Sh} {a dr dc : Addr} {f : Str} {v : V} (T : Txt w K mg) (S : ShAt P w K H s a dr dc) (he : Ev te σ H (.ref a)) (hl : (shFs s dr dc).lookup f = some v) (hf : f ∈ (["ruled", "begun", "whens", "columns", "lines", "cover"] : List Str)) : Ev (tFld K te f) σ H v := fun H1 e Q q =>
  he H1 e _ fun H2 e2 => by
    obtain ⟨dx, h1⟩ := S.at_
    exact ⟨a, _, dx, _, v, rfl, e2 _ _ (e _ _ h1), T.k_Shape, T.no_Shape f hf, hl, q H2 e2⟩
theorem ev_begun {σ : L2.St} {H : Hp} {te : TE} {s : Sh} {a dr dc : Addr} (T : Txt w K mg) (S : ShAt P w K H s a dr dc) (he : Ev te σ H (.ref a)) : Ev (tFld K te "begun") σ H (.bl s.begun) := ev_fld T S he rfl (by decide)
theorem ev_whens {σ : L2.St} {H : Hp} {te : TE} {s : Sh} {a dr dc : Addr} (T : Txt w K mg) (S : ShAt P w K H s a dr dc) (he : Ev te σ H (.ref a)) : Ev (tFld K te "whens") σ H (.int s.whens) := ev_fld T S he rfl (by decide)
theorem ev_cols {σ : L2.St} {H : Hp} {te : TE} {s : Sh} {a dr dc : Addr} (T : Txt w K mg) (S : ShAt P w K H s a dr dc) (he : Ev te σ H (.ref a)) : Ev (tFld K te "columns") σ H (colV s.columns) := ev_fld T S he rfl (by decide)
theorem ev_lines {σ : L2.St} {H : Hp} {te : TE} {s : Sh} {a dr dc : Addr} (T : Txt w K mg) (S : ShAt P w K H s a dr dc) (he : Ev te σ H (.ref a)) : Ev (tFld K te "lines") σ H (.int s.lines) := ev_fld T S he rfl (by decide)
theorem ev_cov {σ : L2.St} {H : Hp} {te : TE} {s : Sh} {a dr dc : Addr} (T : Txt w K mg) (S : ShAt P w K H s a dr dc) (he : Ev te σ H (.ref a)) : Ev (tFld K te "cover") σ H (.ref dc) := ev_fld T S he rfl (by decide)
theorem ev_ruled {σ : L2.St} {H : Hp} {te : TE} {s : Sh} {a dr dc : Addr} (T : Txt w K mg) (S : ShAt P w K H s a dr dc) (he : Ev te σ H (.ref a)) : Ev (tFld K te "ruled") σ H (.ref dr) := ev_fld T S he rfl (by decide)
-- slots: 0 self
theorem SC_Shape_is_open : FnScope ["self"] ["self"] (defScope (inClass (top 53) 5)) := ⟨rfl, rfl, rfl, by decide +kernel, rfl, by decide +kernel, by decide +kernel⟩
def sp_Shape_is_open (P : Program) (w : World) (K : PySem.W.Frag) : Sp := fun vs H Q _ => ∃ (a dr dc : Addr) (s : Sh), vs = [.ref a] ∧ ShAt P w K H s a dr dc ∧ RetV (.bl (openM s)) H Q
theorem me_is_open (T : Txt w K mg) : Me P w K mg base CX0 1 (He.ga K "Shape") "is_open" (sp_Shape_is_open P w K) := by
  obtain ⟨fd, F⟩ := T.dm 62 "Shape" "is_open" "Shape.is_open" 53 5 rfl
  refine me0 F T.k_Shape (T.me_Shape "is_open" (by decide)) SC_Shape_is_open (fun vs H Q E h => by obtain ⟨a, dr, dc, s, rfl, S, k⟩ := h; rfl) (fun _ _ _ _ _ _ us hl => match us, hl with | [_], _ => rfl) fun cdv A outer s H vs Q E hr h => ?_
  obtain ⟨a, dr, dc, s, rfl, S, k⟩ := h
  refine ⟨_, (pss_one (ps_ret (pe_or (pe_cmpR op_notN (pe_fld (pv 0) rfl) pe_non (nomark _)) (pe_one (pe_cmpR op_gt (pe_fld (pv 0) rfl) pe_int (nomark _)))))), ?_⟩
  refine s_ret (ev_is (ev_orV (ev_op (ev_fld T S (ev_var rfl) rfl (by decide)) ev_c rv_isn) fun _ => ev_op (ev_fld T S (ev_var rfl) rfl (by decide)) ev_c rv_I0) ?_) fun H1 e1 => k H1 e1
  unfold openM
  cases s.columns <;> rfl
-- slots: 0 self
theorem SC_Shape_init : FnScope ["self"] ["self"] (defScope (inClass (top 53) 0)) := ⟨rfl, rfl, rfl, by decide +kernel, rfl, by decide +kernel, by decide +kernel⟩
def sp_Shape_init (P : Program) (w : World) (K : PySem.W.Frag) : Sp := fun vs H Q _ => ∃ (a dx : Addr), vs = [.ref a] ∧ H a = some (.ins (He.ga K "Shape") dx []) ∧ (∀ H' dr dc, (∀ b o, b ≠ a → H b = some o → H' b = some o) → H dr = none → H dc = none → ShAt P w K H' sh0 a dr dc → Q .non H')
def Ox (a : Addr) (H H' : Hp) : Prop := ∀ b o, b ≠ a → H b = some o → H' b = some o
theorem Ox.ex {a : Addr} {H H1 H2 : Hp} (h : Ox a H H1) (e : Ex H1 H2) : Ox a H H2 := fun b o n q => e b o (h b o n q)
theorem Ox.upd {a : Addr} {H H1 : Hp} {o : HO} (h : Ox a H H1) : Ox a H (upd H1 a o) := fun b u n q => by rw [upd_ne n]; exact h b u n q
theorem Ox.refl {a : Addr} {H : Hp} : Ox a H H := fun _ _ _ q => q
theorem mk_Shape (T : Txt w K mg) : Mkr P w K mg base CX0 1 "Shape" (sp_Shape_init P w K) := by
  obtain ⟨fd, F⟩ := T.dm 57 "Shape" "__init__" "Shape.__init__" 53 0 rfl
  refine mkr0 F T.mk_Shape T.gl_Shape SC_Shape_init (fun vs H Q E h => by obtain ⟨a, dx, rfl, ha, k⟩ := h; rfl) (fun _ _ _ _ _ _ us hl => match us, hl with | [_], _ => rfl) fun cdv A outer s H vs Q E hr h => ?_
  obtain ⟨a, dx, rfl, ha, k⟩ := h
  refine ⟨_, (pss_cons (ps_fld (pv 0) pe_dnewX rfl)
      (pss_cons (ps_fld (pv 0) pe_bl rfl)
      (pss_cons (ps_fld (pv 0) pe_int rfl)
      (pss_cons (ps_fld (pv 0) pe_non rfl)
      (pss_cons (ps_fld (pv 0) pe_int rfl)
      (pss_one (ps_fld (pv 0) pe_dnewK rfl))))))), ?_⟩
  have no : ∀ {f}, f ∈ (["ruled", "begun", "whens", "columns", "lines", "cover"] : List Str) → NoAttr K (He.ga K "Shape") f := fun h => T.no_Shape _ h
  refine q_fldX (ev_var rfl) ha T.k_Shape (no (by decide)) (by decide) fun dr H1 hdr e1 h1 => ?_
  have n1 : dr ≠ a := fun e => by subst e; rw [hdr] at ha; cases ha
  have l1 := putF_len "ruled" (.ref dr) []
  refine q_fld ev_c (ev_var rfl) upd_same T.k_Shape (no (by decide)) (Nat.lt_of_le_of_lt l1 (by decide)) fun H2 e2 => ?_
  have l2 := Nat.le_trans (putF_len "begun" (.bl false) _) (Nat.add_le_add_right l1 1)
  refine q_fld ev_c (ev_var rfl) upd_same T.k_Shape (no (by decide)) (Nat.lt_of_le_of_lt l2 (by decide)) fun H3 e3 => ?_
  have l3 := Nat.le_trans (putF_len "whens" (.int 0) _) (Nat.add_le_add_right l2 1)
  refine q_fld ev_c (ev_var rfl) upd_same T.k_Shape (no (by decide)) (Nat.lt_of_le_of_lt l3 (by decide)) fun H4 e4 => ?_
  have l4 := Nat.le_trans (putF_len "columns" .non _) (Nat.add_le_add_right l3 1)
  refine q_fld ev_c (ev_var rfl) upd_same T.k_Shape (no (by decide)) (Nat.lt_of_le_of_lt l4 (by decide)) fun H5 e5 => ?_
  have l5 := Nat.le_trans (putF_len "lines" (.int 0) _) (Nat.add_le_add_right l4 1)
  have O1 := (Ox.refl (a := a) (H := H1)).upd.ex e2 |>.upd.ex e3 |>.upd.ex e4 |>.upd.ex e5
  refine s_fldD ed_new (ev_var rfl) upd_same T.k_Shape (no (by decide)) (Nat.lt_of_le_of_lt l5 (by decide)) fun dc H6 hdc e6 h6 => ?_
  have n2 : dc ≠ a := fun e => by subst e; rw [upd_same] at hdc; cases hdc
  refine k _ dr dc (fun b o nb hb => ?_) hdr ?_ ⟨⟨dx, upd_same⟩, ⟨[], ?_, .nil⟩, ?_⟩
  · exact ((O1.upd.ex e6).upd) b o nb (e1 b o hb)
  · cases hh : H dc with
    | none => rfl
    | some o =>
      have := O1 dc o n2 (e1 _ _ hh)
      rw [upd_ne n2] at hdc
      rw [hdc] at this
      cases this
  · exact ((O1.upd.ex e6).upd) dr _ n1 h1
  · rw [upd_ne n2]
    exact h6
/-! ### what takes gives -/
def Tk (P : Program) (w : World) (K : PySem.W.Frag) (o : Option Sh) (a dr dc : Addr) (H : Hp) (Q : VK) : Prop :=
  (∀ s' dc' H', o = some s' → Mv a dr dc H H' → ShAt P w K H' s' a dr dc' → (dc' = dc ∨ H dc' = none) → Q (.bl true) H') ∧ (o = none → ∀ H', Mv a dr dc H H' → Q (.bl false) H')
-- slots: 0 self, 1 row, 2 word, 3 name, 4 others, 5 key
theorem SC_Shape_takes_rule : FnScope ["self", "row", "word", "name", "others", "key"] ["self", "row"] (defScope (inClass (top 53) 2)) := ⟨rfl, rfl, rfl, by decide +kernel, rfl, by decide +kernel, by decide +kernel⟩
def sp_Shape_takes_rule (P : Program) (w : World) (K : PySem.W.Frag) : Sp := fun vs H Q _ => ∃ (a b dr dc : Addr) (s : Sh) (wd nm : Str) (rest : List Part), vs = [.ref a, .ref b] ∧ ShAt P w K H s a dr dc ∧ RowAt K H (.s wd :: .s nm :: rest) b ∧ (nm = "head" → wd = "counter" → ∃ l i, rest = l ++ [.n i]) ∧ s.ruled.length ≤ 1000000 ∧
  Tk P w K (match rkOf wd (.s nm :: rest) with
    | some k => if s.begun = true then none else if k ∈ s.ruled then none else some { s with ruled := s.ruled ++ [k] }
    | none => none) a dr dc H Q
theorem me_takes_rule (T : Txt w K mg) : Me P w K mg base CX0 1 (He.ga K "Shape") "takes_rule" (sp_Shape_takes_rule P w K) := by
  obtain ⟨fd, F⟩ := T.dm 59 "Shape" "takes_rule" "Shape.takes_rule" 53 2 rfl
  refine me0 F T.k_Shape (T.me_Shape "takes_rule" (by decide)) SC_Shape_takes_rule (fun vs H Q E h => by obtain ⟨a, b, dr, dc, s, wd, nm, rest, rfl, S, hr0, hcnt, hlen, k⟩ := h; rfl) (fun _ _ _ _ _ _ us hl => match us, hl with | [_, _], _ => rfl) fun cdv A outer s H vs Q E hr h => ?_
  obtain ⟨a, b, dr, dc, s, wd, nm, rest, rfl, S, hr0, hcnt, hlen, k⟩ := h
  refine ⟨_, (pss_cons (ps_asg (pv 1) (pg_star (m := 2) rfl (pgs_cons (pg_name (i := 2) SC_Shape_takes_rule.nd rfl (Or.inl rfl)) (pgs_cons (pg_name (i := 3) SC_Shape_takes_rule.nd rfl (Or.inl rfl)) (pgs_cons (pg_name (i := 4) SC_Shape_takes_rule.nd rfl (Or.inl rfl)) pgs_nil)))))
      (pss_cons (ps_set (i := 5) SC_Shape_takes_rule.nd rfl (Or.inl rfl) (pe_tup (pa_cons (pv 2) (pa_cons (pv 3) (pa_cons (pe_ifExp (PW.pt (pw_and (pt_cmpR op_eq (pv 3) pe_str (nomark _)) (pw_and1 (pt_cmpR op_eq (pv 2) pe_str (nomark _))))) (pe_ix ix_list (pv 4) (pe_un un_neg pe_int) (fun _ _ => rfl)) pe_non) pa_nil)))))
      (pss_cons (ps_if (PW.pt (pw_or (pt_val (pe_fld (pv 0) rfl)) (pw_or1 (pt_cmpR (op_inRuled hr.units) (pv 5) (pe_fld (pv 0) rfl) (by rfl))))) (pss_one (ps_ret pe_bl)) pss_nil)
      (pss_cons (ps_asg pe_bl (pg_sub (pe_fld (pv 0) rfl) (pv 5) (set_ruled hr.units)))
      (pss_one (ps_ret pe_bl)))))), ?_⟩
  obtain ⟨vs, hq, hp⟩ := hr0
  obtain ⟨vs, rfl, hw1, hw2, hp⟩ : ∃ us, vs = .str wd :: .str nm :: us ∧ Gd wd ∧ Gd nm ∧ Paired (PartAt K H) rest us := by
    cases hp with
    | cons h0 hp =>
      cases hp with
      | cons h1 hp =>
        cases h0 with
        | s x =>
          cases h1 with
          | s y => exact ⟨_, rfl, x, y, hp⟩
  refine q_asgG (ev_var rfl) fun H1 e1 => ⟨b, _, rfl, ex_t e1 hq, by simp only [List.length_cons]; omega, fun Dl hD => ⟨.str wd, _, rfl, .str nm, _, rfl, .ref Dl, [], rfl, rfl, ?_⟩⟩
  have eD : Ex H1 (upd H1 Dl (.lst vs)) := Ex.new hD
  have hL : SqL K (upd H1 Dl (.lst vs)) Dl vs := sq_of upd_same
  have E1 := e1.trans eD
  generalize hk3 : (if nm = "head" ∧ wd = "counter" then (match rest.getLast? with
    | some (.n i) => some i
    | _ => none) else none : Option Int) = k3
  have hrk : rkOf wd (.s nm :: rest) = some (wd, nm, k3) := by rw [← hk3]; rfl
  rw [hrk] at k
  have e3 : Ev (tIf (tAnd (tTest (tOp rEq (tVar 3) (tC (.str "head")))) (tTest (tOp rEq (tVar 2) (tC (.str "counter"))))) (tOp (rIxL K) (tVar 4) (tUn (rU fun i => .int (-i)) (tC (.int 1)))) (tC .non)) ((((start ["self", "row", "word", "name", "others", "key"] [.ref a, .ref b]).set 2 (some (.str wd))).set 3 (some (.str nm))).set 4 (some (.ref Dl))) (upd H1 Dl (.lst vs)) (colV k3) := by
    refine ev_if (b := decide (nm = "head" ∧ wd = "counter")) (et_is (et_and (et_test (ev_op (ev_var rfl) ev_c (rv_eq rfl))) fun _ => et_test (ev_op (ev_var rfl) ev_c (rv_eq rfl))) ?_) (fun h => ?_) (fun h => ?_)
    · have x1 : decide (V.str nm = V.str "head") = decide (nm = "head") := decide_eq_decide.mpr ⟨fun h => V.str.inj h, fun h => by rw [h]⟩
      have x2 : decide (V.str wd = V.str "counter") = decide (wd = "counter") := decide_eq_decide.mpr ⟨fun h => V.str.inj h, fun h => by rw [h]⟩
      rw [x1, x2]
      simp
    · have h2 := of_decide_eq_true h
      obtain ⟨l, i, rfl⟩ := hcnt h2.1 h2.2
      have hk : k3 = some i := by
        rw [← hk3, if_pos h2]
        simp
      have hv : ∃ us, vs = us ++ [.int i] := by
        have : ∀ {l : List Part} {vs : List V}, Paired (PartAt K H) (l ++ [.n i]) vs → ∃ us, vs = us ++ [.int i] := by
          intro l
          induction l with
          | nil =>
            intro vs h
            match vs, h with
            | [v], .cons h .nil => cases h; exact ⟨[], rfl⟩
          | cons p l ih =>
            intro vs h
            match vs, h with
            | v :: vs, .cons _ h =>
              obtain ⟨us, rfl⟩ := ih h
              exact ⟨v :: us, rfl⟩
        exact this hp
      obtain ⟨us, rfl⟩ := hv
      rw [hk]
      exact ev_op (ev_var rfl) (ev_un ev_c ru_neg) (rv_ixL hL atI_last)
    · have h2 : k3 = none := by
        rw [← hk3, if_neg (of_decide_eq_false h)]
      rw [h2]
      exact ev_c
  refine q_asgU (eu_tup (ea_cons (ev_var rfl) (ea2 (ev_var rfl) e3)) (by show 3 ≤ 100000; decide)) fun kp H2 hkp e2 hkt => ?_
  have E2 := E1.trans e2
  have hkey : SqT K H2 kp (rkV (wd, nm, k3)) := st_of hkt
  have S2 := S.ex E2
  refine q_when (b := s.begun || decide ((wd, nm, k3) ∈ s.ruled)) (et_or (et_B (ev_fld T S2 (ev_var rfl) rfl (by decide))) fun _ => et_test (ev_op (ev_var rfl) (ev_fld T S2 (ev_var rfl) rfl (by decide)) fun H3 e3 Q q => ⟨kp, dr, (wd, nm, k3), s.ruled, rfl, rfl, ex_t e3 hkey, (S2.ex e3).ru, q H3 (Ex.refl _)⟩))
    (fun h H3 e3 => s_ret ev_c fun H4 e4 => k.2 ?_ H4 (Mv.ex ((E2.trans e3).trans e4))) (fun h H3 e3 => ?_)
  · cases hb : s.begun with
    | true => simp
    | false =>
      rw [hb, Bool.false_or] at h
      simp [of_decide_eq_true h]
  have hb : s.begun = false := by cases hb : s.begun with
    | true => rw [hb] at h; cases h
    | false => rfl
  have hni : ¬ (wd, nm, k3) ∈ s.ruled := by
    rw [hb, Bool.false_or] at h
    exact of_decide_eq_false h
  have S3 := S2.ex e3
  have E3 := E2.trans e3
  obtain ⟨n1, n2, n3⟩ := S3.ne
  refine q_asgSub ev_c (ev_fld T S3 (ev_var rfl) (f := "ruled") (v := .ref dr) rfl (by decide)) (ev_var (v := .ref kp) rfl) fun H6 E6 => ?_
  have S6 := S3.ex E6
  refine ⟨kp, dr, (wd, nm, k3), s.ruled, rfl, rfl, ex_t (e3.trans E6) hkey, S6.ru, hni, hlen, fun φ hφ => ?_⟩
  refine s_ret ev_c fun H7 e7 => k.1 _ dc H7 (by
    show (if s.begun = true then none else if (wd, nm, k3) ∈ s.ruled then none else some _) = _
    rw [if_neg (by rw [hb]; exact Bool.false_ne_true), if_neg hni]) ((Mv.ex (E3.trans E6)).upd_r.trans (Mv.ex e7)) ?_ (.inl rfl)
  obtain ⟨dx, h1⟩ := S6.at_
  refine ShAt.ex e7 ⟨⟨dx, ?_⟩, hφ, ?_⟩
  · rw [upd_ne (Ne.symm n1)]; exact h1
  · rw [upd_ne n3]; exact S6.co
end
end Pk
set_option Elab.async false
set_option linter.all false
set_option maxRecDepth 100000
set_option maxHeartbeats 4000000
namespace Pk
open PySem PySem.Spec PyProof.Rows L2 Evl
section
variable {P : Program} {w : World} {K : PySem.W.Frag} {mg : Str → Option Value} {base : Heap}
theorem Ruled.upd {H : Hp} {d p : Addr} {o : HO} {ks : List Rk} (h : Ruled P w K H d ks) (hd : p ≠ d) (hp : ∀ xs, H p ≠ some (.tup xs)) (hp2 : ∀ q xs, H p ≠ some (.frz q (.tup xs))) : Ruled P w K (upd H p o) d ks :=
  h.mono (fun o e => by rw [upd_ne (Ne.symm hd)]; exact e) fun q xs hq => by
    rcases hq with hq | hq
    · refine Or.inl ?_
      rcases hq with hq | ⟨z, hq⟩
      · exact Or.inl (by rw [upd_ne (fun e => by subst e; exact hp _ hq)]; exact hq)
      · exact Or.inr ⟨z, by rw [upd_ne (fun e => by subst e; exact hp2 _ _ hq)]; exact hq⟩
    · exact Or.inr hq
/-- the cover changed in place -/
theorem ShAt.cov {H : Hp} {s : Sh} {a dr dc : Addr} {l : List (Int × Int)} (S : ShAt P w K H s a dr dc) : ShAt P w K (upd H dc (.dK (covK l))) { s with cover := l } a dr dc := by
  obtain ⟨dx, h1⟩ := S.at_
  obtain ⟨n1, n2, n3⟩ := S.ne
  have h3 := S.co
  refine ⟨⟨dx, by rw [upd_ne (Ne.symm n2)]; exact h1⟩, S.ru.upd n3 (fun xs e => by rw [h3] at e; cases e) (fun q xs e => by rw [h3] at e; cases e), upd_same⟩
theorem cov_has (l : List (Int × Int)) (c : Int) : (valV (covK l) (.inl c)).isSome = (l.map (·.1)).contains c := by
  unfold valV covK
  induction l with
  | nil => rfl
  | cons q l ih =>
    rw [List.map_cons, List.find?_cons, List.map_cons, List.contains_cons]
    by_cases h : q.1 = c
    · subst h
      simp
    · have h2 : ¬ (Sum.inl q.1 : L2.Key) = .inl c := fun e => h (Sum.inl.inj e)
      have h3 : (c == q.1) = false := by
        rw [beq_eq_false_iff_ne]
        exact fun e => h e.symm
      rw [decide_eq_false h2, h3, Bool.false_or]
      exact ih
section
variable {σ : L2.St} {H H' : Hp} {ta tb tc te tx ti td : TE} {t u : TT} {x y z v : V}
theorem ev_din {d : Addr} {kvs : List (L2.Key × V)} {k : L2.Key} (hi : Ev ti σ H (kV k)) (ho : Ev td σ H (.ref d)) (hd : H d = some (.dK kvs)) : Ev (tDIn ti td) σ H (.bl (valV kvs k).isSome) := fun H1 e Q q =>
  hi H1 e _ fun H2 e2 => ho H2 (e.trans e2) _ fun H3 e3 => ⟨d, _, rfl, .inl ⟨kvs, k, .inl (((e.trans e2).trans e3) _ _ hd), rfl, rfl⟩, q H3 (e2.trans e3)⟩
theorem ev_dnotin {d : Addr} {kvs : List (L2.Key × V)} {k : L2.Key} (hi : Ev ti σ H (kV k)) (ho : Ev td σ H (.ref d)) (hd : H d = some (.dK kvs)) : Ev (tDNotIn ti td) σ H (.bl (!(valV kvs k).isSome)) := fun H1 e Q q =>
  hi H1 e _ fun H2 e2 => ho H2 (e.trans e2) _ fun H3 e3 => ⟨d, _, rfl, .inl ⟨kvs, k, .inl (((e.trans e2).trans e3) _ _ hd), rfl, rfl⟩, q H3 (e2.trans e3)⟩
theorem dp_ints : ∀ xs : List Int, DpAll K H (xs.map V.int) (xs.map PyData.int)
  | [] => .nil
  | x :: r => .cons (.int x) (dp_ints r)
theorem sh_nilL : SeqAt.shaped (.list []) = true := by decide
theorem eqv_nilL (ds : List PyData) : PyData.eqv (.list ds) (.list []) = ds.isEmpty := by cases ds <;> simp [PyData.eqv, PyData.eqvAll]
/-- x == [] -/
theorem ev_eq0L {ds : List PyData} (ha : Ev ta σ H x) (hx : Dp K H x (.list ds)) (sd : SeqAt.shaped (.list ds) = true) : Ev (tOp (rEqD K) ta (tLst tNil)) σ H (.bl ds.isEmpty) :=
  ev_is (ev_opL ha (Evl.el_lst (vs := []) ea_nil (Nat.zero_le _)) fun p H1 hp e1 => rv_eqD (Dp.mono e1 hx) (.lst (sq_of hp) .nil) sd sh_nilL) (by rw [eqv_nilL])
theorem ev_ne0L {ds : List PyData} (ha : Ev ta σ H x) (hx : Dp K H x (.list ds)) (sd : SeqAt.shaped (.list ds) = true) : Ev (tOp (rNeD K) ta (tLst tNil)) σ H (.bl (!ds.isEmpty)) :=
  ev_is (ev_opL ha (Evl.el_lst (vs := []) ea_nil (Nat.zero_le _)) fun p H1 hp e1 => rv_neD (Dp.mono e1 hx) (.lst (sq_of hp) .nil) sd sh_nilL) (by rw [eqv_nilL])
theorem el_lstRg {i j : Int} (ha : Ev ta σ H (.int i)) (hb : Ev tb σ H (.int j)) (ok : RgOk i j) : EvL (tLstRg (tRg2 ta tb)) σ H (rgV i j) := fun H1 e Q q =>
  ha H1 e _ fun H2 e2 => hb H2 (e.trans e2) _ fun H3 e3 => ⟨i, j, rfl, rfl, ok, fun p hp => q p _ (fresh_back (e2.trans e3) hp) ((e2.trans e3).trans (Ex.new hp)) upd_same⟩
end
theorem rgV_nat (f : Int) (n : Nat) : rgV f (f + n) = ((List.range n).map fun k => f + ((k : Nat) : Int)).map V.int := by
  unfold rgV
  have e : (f + (n : Int) - f).toNat = n := by omega
  rw [e, List.map_map]
  rfl
theorem free_given (s : Sh) (c : Int) : (freeM s c).map V.int = given c.toNat (fun k => !(valV (covK s.cover) (.inl ((k : Nat) : Int))).isSome) (fun k => .int ((k : Nat) : Int)) := by
  unfold freeM given
  generalize List.range c.toNat = l
  induction l with
  | nil => rfl
  | cons k l ih =>
    rw [List.map_cons, List.filter_cons, List.filter_cons, cov_has]
    cases ((s.cover.map (·.1)).contains ((k : Nat) : Int)) with
    | true => exact ih
    | false => simp only [Bool.not_false, if_true, List.map_cons, ih]
theorem free_mem {s : Sh} {c f : Int} {r : List Int} (h : freeM s c = f :: r) : 0 ≤ f ∧ f < c ∧ (s.cover.map (·.1)).contains f = false := by
  have hm : f ∈ freeM s c := by rw [h]; exact List.mem_cons_self ..
  unfold freeM at hm
  obtain ⟨h1, h2⟩ := List.mem_filter.mp hm
  obtain ⟨k, hk, rfl⟩ := List.mem_map.mp h1
  have := List.mem_range.mp hk
  refine ⟨by omega, by omega, ?_⟩
  simpa using h2
theorem gvd_ints (W : List Int) (d : Int) : gvd W.length (fun i => (W[i]?).map fun c => ((.inl c : L2.Key), V.int d)) = W.map fun c => ((.inl c : L2.Key), V.int d) := by
  rw [gvd_map W (fun c => some ((.inl c : L2.Key), V.int d)) _ fun i x hx => by rw [hx]; rfl]
  induction W with
  | nil => rfl
  | cons a l ih => simp
-- slots: 0 self, 1 row, 2 word, 3 down, 4 across, 5 tokens, 6 free, 7 column, 8 wide
theorem SC_Shape_placed : FnScope ["self", "row", "word", "down", "across", "tokens", "free", "column", "wide"] ["self", "row"] (defScope (inClass (top 53) 4)) := ⟨rfl, rfl, rfl, by decide +kernel, rfl, by decide +kernel, by decide +kernel⟩
def sp_Shape_placed (P : Program) (w : World) (K : PySem.W.Frag) : Sp := fun vs H Q _ => ∃ (a b dr dc : Addr) (s : Sh) (wd : Str) (d ac c : Int) (xs : List Str), vs = [.ref a, .ref b] ∧ ShAt P w K H s a dr dc ∧ RowAt K H [.s wd, .n d, .n ac, .t xs] b ∧ s.columns = some c ∧ 0 ≤ c ∧ c ≤ 6 ∧ 1 ≤ ac ∧ ac ≤ 6 ∧ s.cover.length ≤ 1000 ∧
  (∀ s' H', placedM s c d ac = some s' → Mv a dr dc H H' → ShAt P w K H' s' a dr dc → ∀ i, Q (.int i) H') ∧ (placedM s c d ac = none → ∀ H', Mv a dr dc H H' → Q .non H')
theorem me_placed (T : Txt w K mg) : Me P w K mg base CX0 1 (He.ga K "Shape") "placed" (sp_Shape_placed P w K) := by
  obtain ⟨fd, F⟩ := T.dm 61 "Shape" "placed" "Shape.placed" 53 4 rfl
  refine me0 F T.k_Shape (T.me_Shape "placed" (by decide)) SC_Shape_placed (fun vs H Q E h => by obtain ⟨a, b, dr, dc, s, wd, d, ac, c, xs, rfl, S, hr0, hcol, hc0, hc6, ha1, ha6, hcl, k⟩ := h; rfl) (fun _ _ _ _ _ _ us hl => match us, hl with | [_, _], _ => rfl) fun cdv A outer s H vs Q E hr h => ?_
  obtain ⟨a, b, dr, dc, s, wd, d, ac, c, xs, rfl, S, hr0, hcol, hc0, hc6, ha1, ha6, hcl, k⟩ := h
  refine ⟨_, (pss_cons (ps_asg (pv 1) (pg_tup (n := 4) rfl (pgs_cons (pg_name (i := 2) SC_Shape_placed.nd rfl (Or.inl rfl)) (pgs_cons (pg_name (i := 3) SC_Shape_placed.nd rfl (Or.inr rfl)) (pgs_cons (pg_name (i := 4) SC_Shape_placed.nd rfl (Or.inl rfl)) (pgs_cons (pg_name (i := 5) SC_Shape_placed.nd rfl (Or.inl rfl)) pgs_nil))))))
      (pss_cons (ps_setLc (i := 6) (own := [("column", 7)]) (g := gName 7) rfl SC_Shape_placed.nd rfl rfl (sw_true rfl rfl rfl (by decide +kernel)) (pi_range1 rfl T.f_range (pa_cons (pe_fld (pv 0) rfl) pa_nil)) (blkOk_by (own := [("column", 7)]) (N := ["self", "row", "word", "down", "across", "tokens", "free", "column", "wide"]) (sc := defScope (inClass (top 53) 4)) (by decide +kernel)) (fun _ _ _ _ _ => (pg_name (i := 7) SC_Shape_placed.nd rfl (Or.inl rfl))) (fun _ _ _ _ _ => pts_one (pt_cmp (pc_dnotin (hu_of hr) (pv 7) (pe_fldK (K := K) rfl (pv 0) rfl)))) (fun _ _ _ _ _ => (pv 7)))
      (pss_cons (ps_if (pt_cmpR (op_eqD hr.units) (pv 6) (pe_lst pa_nil) (nomark _)) (pss_one (ps_ret pe_non)) pss_nil)
      (pss_cons (ps_set (i := 8) SC_Shape_placed.nd rfl (Or.inl rfl) (pe_listRg rfl rfl T.f_list (prg_2 rfl T.f_range (pe_ix ix_list (pv 6) pe_int (fun _ _ => rfl)) (pe_op op_add (pe_ix ix_list (pv 6) pe_int (fun _ _ => rfl)) (pv 4)))))
      (pss_cons (ps_if (PW.pt (pw_or (pt_cmpR op_ge (pe_ix ix_list (pv 8) (pe_un un_neg pe_int) (fun _ _ => rfl)) (pe_fld (pv 0) rfl) (nomark _)) (pw_or1 (pt_val (pe_callB (cr_any rfl) rfl T.f_any boot_any (pa_cons (pe_lc (own := [("column", 7)]) (g := gName 7) (tt := tYes) rfl SC_Shape_placed.nd (pi_list (pv 8)) (blkOk_by (own := [("column", 7)]) (N := ["self", "row", "word", "down", "across", "tokens", "free", "column", "wide"]) (sc := defScope (inClass (top 53) 4)) (by decide +kernel)) (fun _ _ _ _ _ => (pg_name (i := 7) SC_Shape_placed.nd rfl (Or.inl rfl))) (fun _ _ _ _ _ => pts_nil) (fun _ _ _ _ _ => (pe_cmp (pc_din (hu_of hr) (pv 7) (pe_fldK (K := K) rfl (pv 0) rfl))))) pa_nil)))))) (pss_one (ps_ret pe_non)) pss_nil)
      (pss_cons (ps_expr (pe_bm PySem.F.plainAttrs_dict PySem.F.slot_dict_update PySem.F.type_dict_update mt_update (pe_fld (pv 0) rfl) (pa_cons (pe_dc (own := [("column", 7)]) (g := gName 7) (tt := tYes) rfl SC_Shape_placed.nd (pi_list (pv 8)) (blkOk_by (own := [("column", 7)]) (N := ["self", "row", "word", "down", "across", "tokens", "free", "column", "wide"]) (sc := defScope (inClass (top 53) 4)) (by decide +kernel)) (fun _ _ _ _ _ => (pg_name (i := 7) SC_Shape_placed.nd rfl (Or.inl rfl))) (fun _ _ _ _ _ => pts_nil) (fun _ _ _ _ _ => (pv 7)) (fun _ _ _ _ _ => (pv 3))) pa_nil)))
      (pss_one (ps_ret (pe_ix ix_list (pv 6) pe_int (fun _ _ => rfl)))))))))), ?_⟩
  obtain ⟨vs, hq, hp⟩ := hr0
  obtain ⟨tp, rfl⟩ : ∃ tp, vs = [.str wd, .int d, .int ac, .ref tp] := by
    cases hp with
    | cons h0 hp =>
      cases hp with
      | cons h1 hp =>
        cases hp with
        | cons h2 hp =>
          cases hp with
          | cons h3 hp =>
            cases hp
            cases h0
            cases h1
            cases h2
            cases h3
            exact ⟨_, rfl⟩
  refine q_asgG (ev_var rfl) fun H1 e1 => ⟨b, _, rfl, ex_t e1 hq, rfl, .str wd, _, rfl, .int d, _, rfl, .int ac, _, rfl, .ref tp, _, rfl, rfl, ?_⟩
  have S1 := S.ex e1
  have hcv : ∀ {σ : L2.St} {H2 : Hp}, Ex H1 H2 → σ[0]? = some (some (.ref a)) → Ev (tFld K (tVar 0) "columns") σ H2 (.int c) := fun e h0 => ev_is (ev_cols T (S1.ex e) (ev_var h0)) (by rw [hcol]; rfl)
  have hco : ∀ {σ : L2.St} {H2 : Hp}, Ex H1 H2 → σ[0]? = some (some (.ref a)) → Ev (tFld K (tVar 0) "cover") σ H2 (.ref dc) := fun e h0 => ev_cov T (S1.ex e) (ev_var h0)
  refine q_asgL (el_is (el_lcR1 (fun k => !(valV (covK s.cover) (.inl ((k : Nat) : Int))).isSome) (fun k => .int ((k : Nat) : Int)) (ea1 (hcv (Ex.refl _) rfl)) ⟨hc0, by omega⟩ (fun _ => rfl) (fun i H2 e2 _ => et_B (ev_dnotin (k := .inl (i : Int)) (ev_var rfl) (hco e2 rfl) (S1.ex e2).co)) (fun i H2 e2 _ _ => ev_var rfl)) (free_given s c).symm) fun fp H2 hfp e2 hfl => ?_
  have S2 := S1.ex e2
  have E2 := e1.trans e2
  refine q_when (b := ((freeM s c).map PyData.int).isEmpty) (et_test (ev_eq0L (ev_var rfl) (.lst (sq_of hfl) (dp_ints _)) (PySem.W.ke_shaped_ints _))) (fun h H3 e3 => s_ret ev_c fun H4 e4 => k.2 ?_ H4 (Mv.ex ((E2.trans e3).trans e4))) (fun h H3 e3 => ?_)
  · have : freeM s c = [] := by
      cases hh : freeM s c with
      | nil => rfl
      | cons x r => rw [hh] at h; cases h
    unfold placedM
    rw [this]
  obtain ⟨f, r, hf⟩ : ∃ f r, freeM s c = f :: r := by
    cases hh : freeM s c with
    | nil => rw [hh] at h; cases h
    | cons x r => exact ⟨x, r, rfl⟩
  obtain ⟨hf0, hfc, hfn⟩ := free_mem hf
  have S3 := S2.ex e3
  have E3 := E2.trans e3
  have hfl3 : SqL K H3 fp (.int f :: r.map V.int) := by
    have := sq_of (K := K) (e3 _ _ hfl)
    rw [hf] at this
    exact this
  have hflH : H3 fp = some (.lst (.int f :: r.map V.int)) := by
    have := e3 _ _ hfl
    rw [hf] at this
    exact this
  have hix : ∀ {σ : L2.St} {H4 : Hp}, Ex H3 H4 → σ[6]? = some (some (.ref fp)) → Ev (tOp (rIxL K) (tVar 6) (tC (.int 0))) σ H4 (.int f) := fun e h6 => ev_op (ev_var h6) ev_c (rv_ixL (ex_l e hfl3) atI_0)
  obtain ⟨n, rfl⟩ : ∃ n : Nat, ac = ((n + 1 : Nat) : Int) := ⟨ac.toNat - 1, by omega⟩
  generalize hW : ((List.range (n + 1)).map fun k => f + ((k : Nat) : Int)) = W
  have hWl : W.length = n + 1 := by rw [← hW, List.length_map, List.length_range]
  have hWs : W = ((List.range n).map fun k => f + ((k : Nat) : Int)) ++ [f + ((n : Nat) : Int)] := by rw [← hW, List.range_succ, List.map_append]; rfl
  refine q_asgL (el_is (el_lstRg (hix (Ex.refl _) rfl) (ev_op (hix (Ex.refl _) rfl) (ev_var rfl) rv_I0) (RgOk.of_le (by omega) (by omega) (by omega) (by omega))) ((rgV_nat f (n + 1)).trans (by rw [hW]))) fun wp H4 hwp e4 hwl => ?_
  have S4 := S3.ex e4
  have E4 := E3.trans e4
  have hwl4 : SqL K H4 wp (W.map V.int) := sq_of hwl
  have hbadM : placedM s c d ((n + 1 : Nat) : Int) = (if f + ((n + 1 : Nat) : Int) - 1 ≥ c then none else if W.any (fun c => (s.cover.map (·.1)).contains c) then none else some { s with cover := s.cover ++ W.map fun c => (c, d) }) := by
    unfold placedM
    rw [hf]
    simp only [Int.toNat_natCast, hW]
  have hlast : atI (W.map V.int) (-1) = some (.int (f + ((n : Nat) : Int))) := by rw [hWs, List.map_append]; exact atI_last
  have hE4 : ∀ {H5}, Ex H4 H5 → Ex H1 H5 := fun e => ((e2.trans e3).trans e4).trans e
  refine q_when (b := decide (f + ((n : Nat) : Int) ≥ c) || W.any (fun c => (s.cover.map (·.1)).contains c)) (et_or (et_test (ev_op (ev_op (ev_var rfl) (ev_un ev_c ru_neg) (rv_ixL hwl4 hlast)) (hcv (hE4 (Ex.refl _)) rfl) rv_I0)) fun _ => et_B (ev_is (ev_any (bs := W.map fun c => (s.cover.map (·.1)).contains c) (el_is (Pk.el_lst (fun _ => true) (fun v => match v with
      | .int c => .bl ((s.cover.map (·.1)).contains c)
      | _ => .non) (ev_var rfl) hwl4 (by rw [List.length_map, hWl]; exact Nat.le_trans (show n + 1 ≤ 6 by omega) (by decide)) (fun _ => rfl) (fun _ _ _ _ => et_yes) fun x H5 hx e5 _ => ?_) ?_)) ?_))
    (fun h H5 e5 => s_ret ev_c fun H6 e6 => k.2 ?_ H6 (Mv.ex ((E4.trans e5).trans e6))) (fun h H5 e5 => ?_)
  · obtain ⟨z, _, rfl⟩ := List.mem_map.mp hx
    exact ev_is (ev_din (k := .inl z) (ev_var rfl) (hco (hE4 e5) rfl) (S4.ex e5).co) (by rw [cov_has])
  · have : ∀ l : List Int, (((l.map V.int).filter fun _ => true).map fun v => match v with
      | .int c => V.bl ((s.cover.map (·.1)).contains c)
      | _ => .non) = (l.map fun c => (s.cover.map (·.1)).contains c).map V.bl := fun l => by
      induction l with
      | nil => rfl
      | cons a l ih => rw [List.map_cons, List.filter_cons, if_pos rfl, List.map_cons, ih]; rfl
    exact this W
  · congr 1
    induction W with
    | nil => rfl
    | cons a l ih => simp
  · rw [hbadM]
    by_cases h1 : f + ((n : Nat) : Int) ≥ c
    · rw [if_pos (by omega)]
    · rw [decide_eq_false h1, Bool.false_or] at h
      rw [if_neg (by omega), if_pos h]
  have h1 : ¬ f + ((n : Nat) : Int) ≥ c := fun q => by rw [decide_eq_true q] at h; cases h
  rw [decide_eq_false h1, Bool.false_or] at h
  have hM : placedM s c d ((n + 1 : Nat) : Int) = some { s with cover := s.cover ++ W.map fun c => (c, d) } := by
    rw [hbadM, if_neg (by omega), if_neg (by rw [h]; exact Bool.false_ne_true)]
  have S5 := S4.ex e5
  have E5 := E4.trans e5
  have hget : ∀ {i x}, W[i]? = some x → x = f + ((i : Nat) : Int) := fun {i x} hx => by
    rw [← hW] at hx
    obtain ⟨z, hz, rfl⟩ := map_at hx
    have : i = z := by
      have h9 := List.getElem?_eq_some_iff.mp hz
      obtain ⟨h10, h11⟩ := h9
      simpa using h11
    rw [this]
  generalize hmore : (W.map fun c => ((.inl c : L2.Key), V.int d)) = more
  have hdc : EvD (tDc (iList K (tVar 8)) (gName 7) tYes (tVar 7) (tVar 3) [7]) ((((((((start ["self", "row", "word", "down", "across", "tokens", "free", "column", "wide"] [.ref a, .ref b]).set 2 (some (.str wd))).set 3 (some (.int d))).set 4 (some (.int ((n + 1 : Nat) : Int)))).set 5 (some (.ref tp))).set 6 (some (.ref fp))).set 8 (some (.ref wp)))) H5 more := by
    have := ed_dc (σ := ((((((((start ["self", "row", "word", "down", "across", "tokens", "free", "column", "wide"] [.ref a, .ref b]).set 2 (some (.str wd))).set 3 (some (.int d))).set 4 (some (.int ((n + 1 : Nat) : Int)))).set 5 (some (.ref tp))).set 6 (some (.ref fp))).set 8 (some (.ref wp))))) (H := H5) (g := gName 7) (t := tYes) (tk := tVar 7) (tv := tVar 3) (vs := [7]) (wi := iList K (tVar 8)) (walk_list (K := K) (a := wp) (xs := W.map V.int)) (by rw [List.length_map, hWl]; exact Nat.le_trans (show n + 1 ≤ 6 by omega) (by decide))
      (fun i => (W[i]?).map fun c => ((.inl c : L2.Key), V.int d)) (fun i j p q hij hj hp hq => by
        obtain ⟨x, hx, rfl⟩ := Option.map_eq_some_iff.mp hp
        obtain ⟨y, hy, rfl⟩ := Option.map_eq_some_iff.mp hq
        rw [hget hx, hget hy]
        intro e
        have := Sum.inl.inj e
        omega) (fun H6 e6 R hR => ev_var (v := .ref wp) rfl H6 (Ex.refl _) _ fun H7 e7 => ⟨wp, rfl, ⟨_, ex_l (((e5.trans e6).trans e7)) hwl4⟩, hR H7 e7⟩) (fun H6 e6 => ex_l (e5.trans e6) hwl4) (fun i x H6 H7 R S' hi e6 hy hR hS => by
          obtain ⟨rfl, hx⟩ := hy
          obtain ⟨z, hz, rfl⟩ := map_at hx
          refine ⟨rfl, ?_⟩
          have hh := hR (.inl z) (.int d) H7 (by rw [hz]; rfl) (Ex.refl _)
          exact Exists.intro (V.int z) (And.intro rfl (Exists.intro (V.int d) (And.intro rfl hh))))
    have e0 : gvd (W.map V.int).length (fun i => (W[i]?).map fun c => ((.inl c : L2.Key), V.int d)) = more := by
      rw [List.length_map, gvd_ints, hmore]
    rw [e0] at this
    exact this
  have hml2 : more.length = n + 1 := by rw [← hmore, List.length_map, hWl]
  refine q_update S5.co (hco (hE4 e5) rfl) hdc ?_ (fun p hp q hq e => ?_) fun H7 e7 => ?_
  · rw [hml2]
    unfold covK
    rw [List.length_map]
    exact Nat.le_trans (Nat.add_le_add hcl (show n + 1 ≤ 6 by omega)) (by decide)
  · rw [← hmore] at hp
    obtain ⟨z, hz, rfl⟩ := List.mem_map.mp hp
    obtain ⟨y, hy, rfl⟩ := List.mem_map.mp hq
    have e2 : y.1 = z := Sum.inl.inj e
    have := List.any_eq_false.mp h z hz
    apply this
    rw [← e2]
    exact List.contains_iff_mem.mpr (List.mem_map.mpr ⟨y, hy, rfl⟩)
  · have hcovK : covK s.cover ++ more = covK (s.cover ++ W.map fun c => (c, d)) := by
      unfold covK
      rw [List.map_append, List.map_map, ← hmore]
      rfl
    rw [hcovK]
    have S7 := S5.ex e7
    have E7 := E5.trans e7
    have hne2 : fp ≠ dc := fun e => by
      subst e
      have h9 := S3.co
      rw [hflH] at h9
      cases h9
    refine s_ret (ev_op (ev_var rfl) ev_c (rv_ixL (xs := .int f :: r.map V.int) ?_ atI_0)) fun H8 e8 => k.1 _ H8 hM (((Mv.ex E7).upd_c).trans (Mv.ex e8)) (S7.cov.ex e8) f
    exact Or.inl (Or.inl (by rw [upd_ne hne2]; exact ((e4.trans e5).trans e7) _ _ hflH))
end
end Pk
set_option Elab.async false
set_option linter.all false
set_option maxRecDepth 100000
set_option maxHeartbeats 4000000
namespace Pk
open PySem PySem.Spec PyProof.Rows L2 Evl
section
variable {P : Program} {w : World} {K : PySem.W.Frag} {mg : Str → Option Value} {base : Heap}
section
variable {σ : L2.St} {H H' : Hp} {ta tb tc te tx ti td to : TE} {t u : TT} {x y z v : V} {D : Ends} {Q : VK}
theorem s_retAnd {b : Bool} (h1 : Ev ta σ H (.bl b)) (k0 : b = false → ∀ H1, Ex H H1 → D.rt (.bl false) H1) (k : b = true → ∀ H1, Ex H H1 → tb σ H1 D.rt) : tRet (tAndV ta tb) D σ H := h1 H (Ex.refl _) _ fun H2 e2 => ⟨b, rfl, by
  cases b with
  | true => exact k rfl H2 e2
  | false => exact k0 rfl H2 e2⟩
theorem t_meth1 {C a dx : Addr} {m : Str} {sp : Sp} {fs : List (Str × V)} (ha : H a = some (.ins C dx fs)) (ho : Ev to σ H (.ref a)) (hm : fs.lookup m = none) (hv : Ev te σ H v) (k : ∀ H1, Ex H H1 → sp [.ref a, v] H1 Q E0) : tMeth C m sp [] E0 to (tCons te tNil) σ H Q :=
  ho H (Ex.refl _) _ fun H1 e1 => ⟨a, dx, fs, rfl, e1 _ _ ha, hm, hv H1 e1 _ fun H2 e2 => k H2 (e1.trans e2)⟩
theorem t_meth0 {C a dx : Addr} {m : Str} {sp : Sp} {fs : List (Str × V)} (ha : H a = some (.ins C dx fs)) (ho : Ev to σ H (.ref a)) (hm : fs.lookup m = none) (k : ∀ H1, Ex H H1 → sp [.ref a] H1 Q E0) : tMeth C m sp [] E0 to tNil σ H Q :=
  ho H (Ex.refl _) _ fun H1 e1 => ⟨a, dx, fs, rfl, e1 _ _ ha, hm, k H1 e1⟩
theorem ev_fldR {C a dx : Addr} {f : Str} {fs : List (Str × V)} (ha : H a = some (.ins C dx fs)) (c : Cls K C) (n : NoAttr K C f) (hl : fs.lookup f = some v) (he : Ev te σ H (.ref a)) : Ev (tFld K te f) σ H v := fun H1 e Q q =>
  he H1 e _ fun H2 e2 => ⟨a, _, dx, _, v, rfl, e2 _ _ (e _ _ ha), c, n, hl, q H2 e2⟩
end
def thin (l : List (Int × Int)) : List (Int × Int) := (l.filter fun q => decide (1 < q.2)).map fun q => (q.1, q.2 - 1)
theorem gvd_thin (l : List (Int × Int)) : gvd l.length (fun i => (l[i]?).bind fun q => if 1 < q.2 then some ((.inl q.1 : L2.Key), V.int (q.2 - 1)) else none) = covK (thin l) := by
  rw [gvd_map l (fun q => if 1 < q.2 then some ((.inl q.1 : L2.Key), V.int (q.2 - 1)) else none) _ fun i x hx => by rw [hx]; rfl]
  unfold covK thin
  induction l with
  | nil => rfl
  | cons q l ih =>
    rw [List.filterMap_cons, List.filter_cons]
    by_cases h : 1 < q.2
    · simp only [h, if_true, decide_true, List.map_cons, ih]
    · simp only [h, if_false, decide_false, Bool.false_eq_true, ih]
theorem nodup_at {l : List (Int × Int)} (h : (l.map (·.1)).Nodup) {i j : Nat} {p q : Int × Int} (hij : i < j) (hp : l[i]? = some p) (hq : l[j]? = some q) : p.1 ≠ q.1 := fun e => by
  have h1 : (l.map (·.1))[i]? = some p.1 := by rw [List.getElem?_map, hp]; rfl
  have h2 : (l.map (·.1))[j]? = some p.1 := by rw [List.getElem?_map, hq, e]; rfl
  obtain ⟨a1, a2⟩ := List.getElem?_eq_some_iff.mp h1
  obtain ⟨b1, b2⟩ := List.getElem?_eq_some_iff.mp h2
  exact (List.pairwise_iff_getElem.mp h) i j a1 b1 hij (a2.trans b2.symm)
-- slots: 0 self, 1 row, 2 column, 3 deep
theorem SC_Shape_takes_line : FnScope ["self", "row", "column", "deep"] ["self", "row"] (defScope (inClass (top 53) 3)) := ⟨rfl, rfl, rfl, by decide +kernel, rfl, by decide +kernel, by decide +kernel⟩
def sp_Shape_takes_line (P : Program) (w : World) (K : PySem.W.Frag) : Sp := fun vs H Q _ => ∃ (a b dr dc : Addr) (s : Sh) (wd : Str) (ps : List Part) (c : Int), vs = [.ref a, .ref b] ∧ ShAt P w K H s a dr dc ∧ RowAt K H (.s wd :: ps) b ∧ s.columns = some c ∧ 0 ≤ c ∧ c ≤ 6 ∧ s.cover.length ≤ 1000 ∧ (s.cover.map (·.1)).Nodup ∧
  (wd = "cell" → ∃ d ac xs, ps = [.n d, .n ac, .t xs] ∧ 1 ≤ ac ∧ ac ≤ 6) ∧ Tk P w K (lineM s c wd ps) a dr dc H Q
theorem me_takes_line (T : Txt w K mg) : Me P w K mg base CX0 2 (He.ga K "Shape") "takes_line" (sp_Shape_takes_line P w K) := by
  obtain ⟨fd, F⟩ := T.dm 60 "Shape" "takes_line" "Shape.takes_line" 53 3 rfl
  refine me0 F T.k_Shape (T.me_Shape "takes_line" (by decide)) SC_Shape_takes_line (fun vs H Q E h => by obtain ⟨a, b, dr, dc, s, wd, ps, c, rfl, S, hr0, hcol, hc0, hc6, hcl, hnd, hcell, k⟩ := h; rfl) (fun _ _ _ _ _ _ us hl => match us, hl with | [_, _], _ => rfl) fun cdv A outer s H vs Q E hr h => ?_
  obtain ⟨a, b, dr, dc, s, wd, ps, c, rfl, S, hr0, hcol, hc0, hc6, hcl, hnd, hcell, k⟩ := h
  refine ⟨_, (pss_cons (ps_if (pt_cmpR op_eq (pe_ix ix_tup (pv 1) pe_int (fun _ _ => rfl)) pe_str (nomark _)) (pss_cons (ps_fldaug (pv 0) pe_int in_add)
        (pss_cons (ps_fld (pv 0) (pe_lock (pe_dc (own := [("column", 2), ("deep", 3)]) rfl SC_Shape_takes_line.nd (pi_items (pe_fld (pv 0) rfl)) (blkOk_by (own := [("column", 2), ("deep", 3)]) (N := ["self", "row", "column", "deep"]) (sc := defScope (inClass (top 53) 3)) (by decide +kernel)) (fun _ _ _ _ _ => (pg_tupK (K := K) (n := 2) rfl rfl (pgs_cons (pg_name (i := 2) SC_Shape_takes_line.nd rfl (Or.inl rfl)) (pgs_cons (pg_name (i := 3) SC_Shape_takes_line.nd rfl (Or.inl rfl)) pgs_nil)))) (fun _ _ _ _ _ => pts_one (pt_cmpR op_gt (pv 3) pe_int (nomark _))) (fun _ _ _ _ _ => (pv 2)) (fun _ _ _ _ _ => (pe_op op_sub (pv 3) pe_int)))) rfl)
        (pss_one (ps_ret (pe_cmpR op_le (pe_fld (pv 0) rfl) (C8.pe_gc rfl T.g_MOST_LINES) (nomark _)))))) pss_nil)
      (pss_cons (ps_if (pt_cmpR op_eq (pe_ix ix_tup (pv 1) pe_int (fun _ _ => rfl)) pe_str (nomark _)) (pss_one (ps_ret (pe_and (pe_cmpR op_gt (pe_fld (pv 0) rfl) pe_int (nomark _)) (pe_one (pe_cmpR op_notN (pm (me_placed T) hr (by decide) (pv 0) (pa_cons (pv 1) pa_nil)) pe_non (nomark _)))))) pss_nil)
      (pss_cons (ps_if (PW.pt (pw_or (pt_cmpR op_eq (pe_fld (pv 0) rfl) pe_int (nomark _)) (pw_or1 (pt_val (pe_callB (cr_any rfl) rfl T.f_any boot_any (pa_cons (pe_lock (pe_lc (own := [("deep", 3)]) (g := gName 3) (tt := tYes) rfl SC_Shape_takes_line.nd (pi_values (pe_fld (pv 0) rfl)) (blkOk_by (own := [("deep", 3)]) (N := ["self", "row", "column", "deep"]) (sc := defScope (inClass (top 53) 3)) (by decide +kernel)) (fun _ _ _ _ _ => (pg_name (i := 3) SC_Shape_takes_line.nd rfl (Or.inl rfl))) (fun _ _ _ _ _ => pts_nil) (fun _ _ _ _ _ => (pe_cmpR op_gt (pv 3) pe_int (nomark _))))) pa_nil)))))) (pss_one (ps_ret pe_bl)) pss_nil)
      (pss_cons (ps_fld (pv 0) pe_non rfl)
      (pss_one (ps_ret pe_bl)))))), ?_⟩
  have hr1 := hr0
  obtain ⟨vs, hq, hp⟩ := hr0
  obtain ⟨us, rfl, hpp⟩ : ∃ us, vs = .str wd :: us ∧ Paired (PartAt K H) ps us := by
    cases hp with
    | cons h0 hp =>
      cases h0 with
      | s x => exact ⟨_, rfl, hp⟩
  have h0 : ∀ {σ : L2.St} {H1 : Hp}, Ex H H1 → σ[1]? = some (some (.ref b)) → Ev (tOp (rIxT K) (tVar 1) (tC (.int 0))) σ H1 (.str wd) := fun e h1 => ev_op (ev_var h1) ev_c (rv_ixT (ex_t e hq) atI_0)
  have hw : ∀ z : Str, decide (V.str wd = V.str z) = decide (wd = z) := fun z => decide_eq_decide.mpr ⟨fun h => V.str.inj h, fun h => by rw [h]⟩
  refine q_when (b := decide (wd = "row")) (et_is (et_test (ev_op (h0 (Ex.refl _) rfl) ev_c (rv_eq rfl))) (hw _)) (fun h H1 e1 => ?_) (fun h H1 e1 => ?_)
  · have hwd : wd = "row" := of_decide_eq_true h
    have S1 := S.ex e1
    obtain ⟨dx, hat⟩ := S1.at_
    refine q_fldaug (ev_var rfl) hat T.k_Shape (T.no_Shape _ (by decide)) (show (shFs s dr dc).lookup ("lines" : Str) = some (.int s.lines) from rfl) ev_c (show 6 < 1000 by decide) (fun H Q q => ⟨s.lines, 1, rfl, rfl, q⟩) fun H2 e2 => ?_
    have S2 : ShAt P w K _ { s with lines := s.lines + 1 } a dr dc := (S1.ex e2).set (dx := dx) rfl (S1.ex e2).co
    generalize hH3 : upd H2 a (.ins (He.ga K "Shape") dx (shFs { s with lines := s.lines + 1 } dr dc)) = H3 at S2
    have hH3' : upd H2 a (.ins (He.ga K "Shape") dx (putF "lines" (.int (s.lines + 1)) (shFs s dr dc))) = H3 := hH3
    rw [hH3']
    have M3 : Mv a dr dc H H3 := by rw [← hH3]; exact (Mv.ex (e1.trans e2)).upd_a
    obtain ⟨dx3, hat3⟩ := S2.at_
    have hne : a ≠ dc := Ne.symm S2.ne.2.1
    refine q_fldD (kvs := covK (thin s.cover)) (ed_lock S2.co trivial fun od => ?_) (ev_var rfl) hat3 T.k_Shape (T.no_Shape _ (by decide)) (show 6 < 1000 by decide) fun p H4 hpn e4 hpd => ?_
    · have haL : (upd H3 dc (.frz od (.dK (covK s.cover)))) a = some (.ins (He.ga K "Shape") dx3 (shFs { s with lines := s.lines + 1 } dr dc)) := by rw [upd_ne hne]; exact hat3
      have := ed_dc (σ := start ["self", "row", "column", "deep"] [.ref a, .ref b]) (H := upd H3 dc (.frz od (.dK (covK s.cover)))) (g := gTup K 2 (gCons (gName 2) (gCons (gName 3) gNil))) (t := tTest (tOp (rI0 fun i j => .bl (decide (j < i))) (tVar 3) (tC (.int 1)))) (tk := tVar 2) (tv := tOp (rI0 fun i j => .int (i - j)) (tVar 3) (tC (.int 1))) (vs := [2, 3])
        (wi := iItems (tFld K (tVar 0) "cover")) (walk_items (d := dc) (o := od) (kvs := covK s.cover)) (by unfold covK; rw [List.length_map]; exact Nat.le_trans hcl (by decide)) (fun i => (s.cover[i]?).bind fun q => if 1 < q.2 then some ((.inl q.1 : L2.Key), V.int (q.2 - 1)) else none)
        (fun i j p q hij hj hp hq => by
          obtain ⟨x, hx, hp⟩ := Option.bind_eq_some_iff.mp hp
          obtain ⟨y, hy, hq⟩ := Option.bind_eq_some_iff.mp hq
          by_cases h1 : 1 < x.2
          · by_cases h2 : 1 < y.2
            · rw [if_pos h1] at hp
              rw [if_pos h2] at hq
              cases hp
              cases hq
              intro e
              exact nodup_at hnd hij hx hy (Sum.inl.inj e)
            · rw [if_neg h2] at hq; cases hq
          · rw [if_neg h1] at hp; cases hp) (fun H4 e4 R hR => ev_fldR haL T.k_Shape (T.no_Shape _ (by decide)) (show (shFs { s with lines := s.lines + 1 } dr dc).lookup ("cover" : Str) = some (.ref dc) from rfl) (ev_var rfl) H4 e4 _ fun H5 e5 => ⟨dc, od, covK s.cover, rfl, (e4.trans e5) _ _ upd_same, hR H5 e5⟩)
        (fun H4 e4 => e4 _ _ upd_same) (fun i x H4 H5 R S' hi e4 hy hR hS => y_pair hy fun x y hx hy e5 => by
          obtain ⟨q, hq, rfl, rfl⟩ : ∃ q, s.cover[i]? = some q ∧ x = .int q.1 ∧ y = .int q.2 := by
            rw [show (covK s.cover)[i]? = (s.cover[i]?).map fun q => ((.inl q.1 : L2.Key), V.int q.2) from by unfold covK; rw [List.getElem?_map]] at hx hy
            cases hc : s.cover[i]? with
            | none => rw [hc] at hx; cases hx
            | some q =>
              rw [hc] at hx hy
              cases hx
              cases hy
              exact ⟨q, rfl, rfl, rfl⟩
          refine ⟨rfl, et_test (ev_op (ev_var (v := .int q.2) rfl) ev_c rv_I0) H5 (Ex.refl _) _ fun H6 e6 => ifb (fun h => ?_) (fun h => ?_)⟩
          · have hh : 1 < q.2 := of_decide_eq_true h
            exact Exists.intro (V.int q.1) (And.intro rfl (ev_op (ev_var (v := .int q.2) rfl) ev_c rv_I0 H6 (Ex.refl _) _ fun H7 e7 => hR (.inl q.1) (.int (q.2 - 1)) H7 (by rw [hq]; show (if 1 < q.2 then _ else _) = _; rw [if_pos hh]) (e5.trans (e6.trans e7))))
          · have hh : ¬ 1 < q.2 := of_decide_eq_false h
            exact hS (by rw [hq]; show (if 1 < q.2 then _ else _) = _; rw [if_neg hh]) H6 (e5.trans e6))
      rw [show (covK s.cover).length = s.cover.length from by unfold covK; rw [List.length_map], gvd_thin] at this
      exact this
    · have S4 := S2.ex e4
      have S5 : ShAt P w K _ { s with lines := s.lines + 1, cover := thin s.cover } a dr p := S4.set (s' := { s with lines := s.lines + 1, cover := thin s.cover }) (dx := dx3) rfl hpd
      generalize hH5 : upd H4 a (.ins (He.ga K "Shape") dx3 (shFs { s with lines := s.lines + 1, cover := thin s.cover } dr p)) = H5 at S5
      have hH5' : upd H4 a (.ins (He.ga K "Shape") dx3 (putF "cover" (.ref p) (shFs { s with lines := s.lines + 1 } dr dc))) = H5 := hH5
      rw [hH5']
      have M5 : Mv a dr dc H H5 := by rw [← hH5]; exact (M3.trans (Mv.ex e4)).upd_a
      have hpH : H p = none := by
        cases hh : H p with
        | none => rfl
        | some o =>
          exfalso
          have n1 : p ≠ a := fun e => by subst e; rw [hat3] at hpn; cases hpn
          have n2 : p ≠ dc := fun e => by subst e; rw [S2.co] at hpn; cases hpn
          have n3 : p ≠ dr := fun e => by
            subst e
            obtain ⟨_, h9, _⟩ := S2.ru
            rw [h9] at hpn
            cases hpn
          have := M3 p o n1 n3 n2 hh
          rw [hpn] at this
          cases this
      have hlm : lineM s c wd ps = (if s.lines + 1 ≤ 8 then some { s with lines := s.lines + 1, cover := thin s.cover } else none) := by
        unfold lineM
        rw [if_pos hwd]
        rfl
      refine s_ret (ev_op (ev_lines T S5 (ev_var rfl)) ev_c rv_I0) fun H6 e6 => ?_
      by_cases hl : s.lines + 1 ≤ 8
      · have : decide (s.lines + 1 ≤ 8) = true := decide_eq_true hl
        show Q (.bl (decide (s.lines + 1 ≤ 8))) H6
        rw [this]
        exact k.1 _ p H6 (by rw [hlm, if_pos hl]) (M5.trans (Mv.ex e6)) (S5.ex e6) (.inr hpH)
      · have : decide (s.lines + 1 ≤ 8) = false := decide_eq_false hl
        show Q (.bl (decide (s.lines + 1 ≤ 8))) H6
        rw [this]
        exact k.2 (by rw [hlm, if_neg hl]) H6 (M5.trans (Mv.ex e6))
  have hw1 : ¬ wd = "row" := of_decide_eq_false h
  refine q_when (b := decide (wd = "cell")) (et_is (et_test (ev_op (h0 e1 rfl) ev_c (rv_eq rfl))) (hw _)) (fun h H2 e2 => ?_) (fun h H2 e2 => ?_)
  · have hwd : wd = "cell" := of_decide_eq_true h
    obtain ⟨d, ac, xs, rfl, ha1, ha6⟩ := hcell hwd
    have E2 := e1.trans e2
    have S2 := S.ex E2
    have hlm : lineM s c wd [.n d, .n ac, .t xs] = (if 0 < s.lines then placedM s c d ac else none) := by
      unfold lineM
      rw [if_neg hw1, if_pos hwd]
    refine s_retAnd (ev_op (ev_lines T S2 (ev_var rfl)) ev_c rv_I0) (fun hl H3 e3 => k.2 (by rw [hlm, if_neg (of_decide_eq_false hl)]) H3 (Mv.ex (E2.trans e3))) (fun hl H3 e3 => ?_)
    have hl2 : 0 < s.lines := of_decide_eq_true hl
    rw [if_pos hl2] at hlm
    have S3 := S2.ex e3
    have E3 := E2.trans e3
    obtain ⟨dx, hat⟩ := S3.at_
    refine t_meth1 hat (ev_var rfl) (show (shFs s dr dc).lookup ("placed" : Str) = none from rfl) (ev_var rfl) fun H4 e4 => ?_
    have S4 := S3.ex e4
    have E4 := E3.trans e4
    refine ⟨a, b, dr, dc, s, wd, d, ac, c, xs, rfl, S4, hr1.mono E4, hcol, hc0, hc6, ha1, ha6, hcl, fun s' H5 hM M5 S5 i => ?_, fun hM H5 M5 => ?_⟩
    · exact ⟨rfl, k.1 s' dc H5 (by rw [hlm, hM]) ((Mv.ex E4).trans M5) S5 (.inl rfl)⟩
    · exact ⟨rfl, k.2 (by rw [hlm, hM]) H5 ((Mv.ex E4).trans M5)⟩
  have hw2 : ¬ wd = "cell" := of_decide_eq_false h
  have E2 := e1.trans e2
  have S2 := S.ex E2
  have hlm : lineM s c wd ps = (if s.lines = 0 then none else if s.cover.any fun q => decide (1 < q.2) then none else some { s with columns := none }) := by
    unfold lineM
    rw [if_neg hw1, if_neg hw2]
  have hne : a ≠ dc := Ne.symm S2.ne.2.1
  refine q_when (b := decide (s.lines = 0) || s.cover.any fun q => decide (1 < q.2)) (et_or (et_is (et_test (ev_op (ev_lines T S2 (ev_var rfl)) ev_c (rv_eq rfl))) (decide_eq_decide.mpr ⟨fun h => V.int.inj h, fun h => by rw [h]⟩)) fun _ => et_B (ev_is (ev_any (bs := s.cover.map fun q => decide (1 < q.2)) (el_lock S2.co trivial fun od => ?_)) ?_)) (fun h H3 e3 => s_ret ev_c fun H4 e4 => k.2 ?_ H4 (Mv.ex ((E2.trans e3).trans e4))) (fun h H3 e3 => ?_)
  · obtain ⟨dx3, hat3⟩ := S2.at_
    have haL : (upd H2 dc (.frz od (.dK (covK s.cover)))) a = some (.ins (He.ga K "Shape") dx3 (shFs s dr dc)) := by rw [upd_ne hne]; exact hat3
    refine el_is (el_lc (walk_values (d := dc) (o := od) (kvs := covK s.cover)) (by unfold covK; rw [List.length_map]; exact Nat.le_trans hcl (by decide)) (fun i x => ∃ q, s.cover[i]? = some q ∧ x = .int q.2) (fun _ => true) (fun i => match s.cover[i]? with
        | some q => .bl (decide (1 < q.2))
        | none => .non) (fun H4 e4 R hR => ev_fldR haL T.k_Shape (T.no_Shape _ (by decide)) (show (shFs s dr dc).lookup ("cover" : Str) = some (.ref dc) from rfl) (ev_var rfl) H4 e4 _ fun H5 e5 => ⟨dc, od, covK s.cover, rfl, (e4.trans e5) _ _ upd_same, hR H5 e5⟩)
        (fun H4 e4 => e4 _ _ upd_same) (fun i H4 x H5 hi e4 hy => ?_) (fun _ => rfl) (fun _ _ _ _ _ _ => et_yes) (fun i x H4 hi e4 hx _ => ?_)) ?_
    · obtain ⟨rfl, kk, hx⟩ := hy
      refine ⟨rfl, ?_⟩
      rw [show (covK s.cover)[i]? = (s.cover[i]?).map fun q => ((.inl q.1 : L2.Key), V.int q.2) from by unfold covK; rw [List.getElem?_map]] at hx
      cases hc : s.cover[i]? with
      | none => rw [hc] at hx; cases hx
      | some q => rw [hc] at hx; cases hx; exact ⟨q, rfl, rfl⟩
    · obtain ⟨q, hq, rfl⟩ := hx
      rw [hq]
      exact ev_op (ev_var rfl) ev_c rv_I0
    · rw [show (covK s.cover).length = s.cover.length from by unfold covK; rw [List.length_map]]
      rw [giv_map s.cover (fun q => some (.bl (decide (1 < q.2)))) _ fun i x hx => by rw [if_pos rfl, hx]]
      generalize s.cover = l
      induction l with
      | nil => rfl
      | cons a l ih => simp
  · congr 1
    generalize s.cover = l
    induction l with
    | nil => rfl
    | cons a l ih => simp
  · rw [hlm]
    by_cases hl : s.lines = 0
    · rw [if_pos hl]
    · rw [decide_eq_false hl, Bool.false_or] at h
      rw [if_neg hl, if_pos h]
  have hl : ¬ s.lines = 0 := fun q => by rw [decide_eq_true q] at h; cases h
  rw [decide_eq_false hl, Bool.false_or] at h
  rw [if_neg hl, if_neg (by rw [h]; exact Bool.false_ne_true)] at hlm
  have S3 := S2.ex e3
  obtain ⟨dx, hat⟩ := S3.at_
  refine q_fld ev_c (ev_var rfl) hat T.k_Shape (T.no_Shape _ (by decide)) (show 6 < 1000 by decide) fun H4 e4 => ?_
  have S4 : ShAt P w K _ { s with columns := none } a dr dc := (S3.ex e4).set (s' := { s with columns := none }) (dx := dx) rfl (S3.ex e4).co
  generalize hH5 : upd H4 a (.ins (He.ga K "Shape") dx (shFs { s with columns := none } dr dc)) = H5 at S4
  have hH5' : upd H4 a (.ins (He.ga K "Shape") dx (putF "columns" .non (shFs s dr dc))) = H5 := hH5
  rw [hH5']
  refine s_ret ev_c fun H6 e6 => k.1 _ dc H6 hlm (Mv.trans ?_ (Mv.ex e6)) (S4.ex e6) (.inl rfl)
  rw [← hH5]
  exact (Mv.ex ((E2.trans e3).trans e4)).upd_a
end
end Pk
set_option Elab.async false
set_option linter.all false
set_option maxRecDepth 100000
set_option maxHeartbeats 4000000
namespace Pk
open PySem PySem.Spec PyProof.Rows L2 Evl
/-! ### bounds of a shape after n rows -/
structure ShOk (n : Nat) (s : Sh) : Prop where
  cov : s.cover.length ≤ 6 * n
  ru : s.ruled.length ≤ n
  nd : (s.cover.map (·.1)).Nodup
  col : ∀ c, s.columns = some c → 0 ≤ c ∧ c ≤ 6
theorem shOk_0 : ShOk 0 sh0 := ⟨Nat.le_refl _, Nat.le_refl _, List.nodup_nil, fun c h => by cases h⟩
theorem ShOk.mono {n m : Nat} {s : Sh} (h : ShOk n s) (hm : n ≤ m) : ShOk m s := ⟨Nat.le_trans h.cov (Nat.mul_le_mul_left 6 hm), Nat.le_trans h.ru hm, h.nd, h.col⟩
theorem thin_len (l : List (Int × Int)) : (thin l).length ≤ l.length := by
  unfold thin
  rw [List.length_map]
  exact List.length_filter_le _ _
theorem thin_nd {l : List (Int × Int)} (h : (l.map (·.1)).Nodup) : ((thin l).map (·.1)).Nodup := by
  unfold thin
  rw [List.map_map]
  have : ((fun q : Int × Int => q.1) ∘ fun q : Int × Int => (q.1, q.2 - 1)) = fun q => q.1 := rfl
  rw [this]
  exact h.sublist (List.Sublist.map _ List.filter_sublist)
theorem placed_ok {n : Nat} {s s' : Sh} {c d ac : Int} (h : ShOk n s) (hac : ac ≤ 6) (hp : placedM s c d ac = some s') : ShOk (n + 1) s' := by
  unfold placedM at hp
  cases hf : freeM s c with
  | nil => rw [hf] at hp; cases hp
  | cons f r =>
    rw [hf] at hp
    simp only at hp
    by_cases h1 : f + ac - 1 ≥ c
    · rw [if_pos h1] at hp; cases hp
    · rw [if_neg h1] at hp
      by_cases h2 : (((List.range ac.toNat).map fun k => f + ((k : Nat) : Int)).any fun c => (s.cover.map (·.1)).contains c) = true
      · rw [if_pos h2] at hp; cases hp
      · rw [if_neg h2] at hp
        cases hp
        have h3 : (((List.range ac.toNat).map fun k => f + ((k : Nat) : Int)).any fun c => (s.cover.map (·.1)).contains c) = false := by simpa using h2
        refine ⟨?_, Nat.le_succ_of_le h.ru, ?_, h.col⟩
        · have := h.cov
          simp only [List.length_append, List.length_map, List.length_range]
          omega
        · simp only [List.map_append, List.map_map]
          refine List.nodup_append.mpr ⟨h.nd, ?_, fun x hx y hy e => ?_⟩
          · refine List.pairwise_map.mpr (List.Pairwise.imp (fun {a b} hab e => ?_) List.nodup_range)
            have e2 : f + ((a : Nat) : Int) = f + ((b : Nat) : Int) := e
            exact hab (by omega)
          · subst e
            obtain ⟨k, hk, e⟩ := List.mem_map.mp hy
            have h4 := List.any_eq_false.mp h3 x (List.mem_map.mpr ⟨k, hk, e⟩)
            exact h4 (List.contains_iff_mem.mpr hx)
theorem when_ok {n : Nat} {s s' : Sh} (h : ShOk n s) (hw : whenM s = some s') : ShOk n s' := by
  unfold whenM at hw
  by_cases h1 : 0 ≤ s.whens
  · rw [if_pos h1] at hw
    by_cases h2 : s.whens ≤ 3
    · rw [if_pos h2] at hw; cases hw; exact h
    · rw [if_neg h2] at hw; cases hw
  · rw [if_neg h1] at hw; cases hw
/-- what a row that stands says of its parts -/
theorem cell_parts {wd : Str} {ps : List Part} (hr : rowM (.s wd :: ps) = true) (hw : wd = "cell") : ∃ d ac xs, ps = [.n d, .n ac, .t xs] ∧ 1 ≤ ac ∧ ac ≤ 6 := by
  obtain ⟨w, qs, form, e, hf, hp, _⟩ := rowM_at hr
  cases e
  subst hw
  have h3 : formTab.lookup ("cell" : Str) = some (["columns", "columns", "plain"] : List Str) := by decide +kernel
  rw [h3] at hf
  cases hf
  have h4 : numTab.lookup ("columns" : Str) = some (1, 4) := by decide +kernel
  have hl := parts_len hp
  match ps, hl, hp with
  | [p1, p2, p3], _, hp =>
    simp only [partsM, Bool.and_eq_true] at hp
    obtain ⟨h5, h6, h7, _⟩ := hp
    simp only [partM, h4] at h5 h6
    cases p1 with
    | n d =>
      cases p2 with
      | n ac =>
        simp only [onN, Bool.and_eq_true, decide_eq_true_eq] at h6
        obtain ⟨xs, rfl, _⟩ := part_tok (by decide) h7
        exact ⟨d, ac, xs, rfl, h6.1, by omega⟩
      | _ => cases h6
    | _ => cases h5
theorem table_parts {wd : Str} {ps : List Part} (hr : rowM (.s wd :: ps) = true) (hw : wd = "table") : ∃ c xs, ps = [.n c, .t xs] ∧ 1 ≤ c ∧ c ≤ 6 := by
  obtain ⟨w, qs, form, e, hf, hp, _⟩ := rowM_at hr
  cases e
  subst hw
  have h3 : formTab.lookup ("table" : Str) = some (["columns", "bare"] : List Str) := by decide +kernel
  rw [h3] at hf
  cases hf
  have h4 : numTab.lookup ("columns" : Str) = some (1, 4) := by decide +kernel
  have hl := parts_len hp
  match ps, hl, hp with
  | [p1, p3], _, hp =>
    simp only [partsM, Bool.and_eq_true] at hp
    obtain ⟨h5, h7, _⟩ := hp
    simp only [partM, h4] at h5
    cases p1 with
    | n d =>
      simp only [onN, Bool.and_eq_true, decide_eq_true_eq] at h5
      obtain ⟨xs, rfl, _⟩ := part_tok (by decide) h7
      exact ⟨d, xs, rfl, h5.1, by omega⟩
    | _ => cases h5
theorem onS_at {f : Str → Bool} {p : Part} (h : onS f p = true) : ∃ x, p = .s x := by
  cases p with
  | s x => exact ⟨x, rfl⟩
  | _ => cases h
theorem rule_parts {wd : Str} {ps : List Part} (hr : rowM (.s wd :: ps) = true) (hw : wd = "style" ∨ wd = "counter") : ∃ nm rest, ps = .s nm :: rest ∧ (nm = "head" → wd = "counter" → ∃ l i, rest = l ++ [.n i]) := by
  obtain ⟨w, qs, form, e, hf, hp, _⟩ := rowM_at hr
  cases e
  have h4 : numTab.lookup ("3" : Str) = some (0, 3) := by decide +kernel
  have h5 : numTab.lookup ("counted" : Str) = none := by decide +kernel
  have h6 : numTab.lookup ("name" : Str) = none := by decide +kernel
  rcases hw with rfl | rfl
  · have h3 : formTab.lookup ("style" : Str) = some (["name", "6", "4", "2", "align"] : List Str) := by decide +kernel
    rw [h3] at hf
    cases hf
    match ps, hp with
    | p1 :: rest, hp =>
      simp only [partsM, Bool.and_eq_true] at hp
      have h7 := hp.1
      simp only [partM, h6] at h7
      obtain ⟨x, rfl⟩ := onS_at h7
      exact ⟨x, rest, rfl, fun _ h => absurd h (by decide)⟩
  · have h3 : formTab.lookup ("counter" : Str) = some (["counted", "way", "3"] : List Str) := by decide +kernel
    rw [h3] at hf
    cases hf
    have hl := parts_len hp
    match ps, hl, hp with
    | [p1, p2, p3], _, hp =>
      simp only [partsM, Bool.and_eq_true] at hp
      obtain ⟨h7, _, h8, _⟩ := hp
      simp only [partM, h5] at h7
      simp only [partM, h4] at h8
      obtain ⟨x, rfl⟩ := onS_at h7
      cases p3 with
      | n i => exact ⟨x, [p2, .n i], rfl, fun _ _ => ⟨[p2], i, rfl⟩⟩
      | _ => cases h8
theorem takes_ok {n : Nat} {s s' : Sh} {r : Row} (h : ShOk n s) (hr : rowM r = true) (ht : takesM s r = some s') : ShOk (n + 1) s' := by
  obtain ⟨wd, ps, form, rfl, hf, hp, _⟩ := rowM_at hr
  unfold takesM at ht
  simp only at ht
  by_cases hw : wd = "style" ∨ wd = "counter"
  · rw [if_pos hw] at ht
    cases hk : rkOf wd ps with
    | none => rw [hk] at ht; cases ht
    | some k =>
      rw [hk] at ht
      simp only at ht
      by_cases hb : s.begun = true
      · rw [if_pos hb] at ht; cases ht
      · rw [if_neg hb] at ht
        by_cases hm : k ∈ s.ruled
        · rw [if_pos hm] at ht; cases ht
        · rw [if_neg hm] at ht
          cases ht
          refine ⟨Nat.le_trans h.cov (Nat.mul_le_mul_left 6 (Nat.le_succ n)), ?_, h.nd, h.col⟩
          have := h.ru
          simp only [List.length_append, List.length_singleton]
          omega
  · rw [if_neg hw] at ht
    have hb : ShOk n { s with begun := true } := ⟨h.cov, h.ru, h.nd, h.col⟩
    by_cases h1 : wd = "row" ∨ wd = "cell" ∨ wd = "close"
    · rw [if_pos h1] at ht
      cases hc : s.columns with
      | none => rw [hc] at ht; cases ht
      | some c =>
        rw [hc] at ht
        simp only at ht
        have hbc : ShOk n ⟨s.ruled, true, s.whens, some c, s.lines, s.cover⟩ := ⟨h.cov, h.ru, h.nd, fun c' e => h.col c' (hc.trans e)⟩
        unfold lineM at ht
        by_cases h2 : wd = "row"
        · rw [if_pos h2] at ht
          by_cases h3 : s.lines + 1 ≤ 8
          · rw [if_pos h3] at ht
            cases ht
            refine ⟨?_, Nat.le_succ_of_le h.ru, thin_nd h.nd, hbc.col⟩
            exact Nat.le_trans (thin_len s.cover) (Nat.le_trans h.cov (Nat.mul_le_mul_left 6 (Nat.le_succ n)))
          · rw [if_neg h3] at ht; cases ht
        · rw [if_neg h2] at ht
          by_cases h3 : wd = "cell"
          · rw [if_pos h3] at ht
            obtain ⟨d, ac, xs, rfl, _, h6⟩ := cell_parts hr h3
            by_cases h4 : 0 < s.lines
            · rw [if_pos h4] at ht
              exact placed_ok hbc h6 ht
            · rw [if_neg h4] at ht; cases ht
          · rw [if_neg h3] at ht
            by_cases h4 : s.lines = 0
            · rw [if_pos h4] at ht; cases ht
            · rw [if_neg h4] at ht
              by_cases h5 : (s.cover.any fun q => decide (1 < q.2)) = true
              · rw [if_pos h5] at ht; cases ht
              · rw [if_neg h5] at ht
                cases ht
                have hx : ShOk n ⟨s.ruled, true, s.whens, none, s.lines, s.cover⟩ := ⟨h.cov, h.ru, h.nd, fun c h => nomatch h⟩
                exact hx.mono (Nat.le_succ n)
    · rw [if_neg h1] at ht
      by_cases h2 : s.columns.isSome = true
      · rw [if_pos h2] at ht; cases ht
      · rw [if_neg h2] at ht
        by_cases h3 : wd = "table"
        · rw [if_pos h3] at ht
          obtain ⟨c, xs, rfl, c1, c6⟩ := table_parts hr h3
          have hx : ShOk n ⟨s.ruled, true, s.whens, some c, 0, []⟩ := ⟨Nat.zero_le _, h.ru, List.nodup_nil, fun c' h => by cases h; omega⟩
          exact (when_ok hx ht).mono (Nat.le_succ n)
        · rw [if_neg h3] at ht
          by_cases h4 : wd = "when"
          · rw [if_pos h4] at ht
            have hx : ShOk n ⟨s.ruled, true, s.whens + 1, s.columns, s.lines, s.cover⟩ := ⟨h.cov, h.ru, h.nd, h.col⟩
            exact (when_ok hx ht).mono (Nat.le_succ n)
          · rw [if_neg h4] at ht
            by_cases h5 : wd = "done"
            · rw [if_pos h5] at ht
              have hx : ShOk n ⟨s.ruled, true, s.whens - 1, s.columns, s.lines, s.cover⟩ := ⟨h.cov, h.ru, h.nd, h.col⟩
              exact (when_ok hx ht).mono (Nat.le_succ n)
            · rw [if_neg h5] at ht
              exact (when_ok hb ht).mono (Nat.le_succ n)
theorem colMatch (s : Sh) (c : Int) (h : s.columns = some c) (F : Int → Option Sh) : (match s.columns with
        | none => none
        | some c => F c) = F c := by rw [h]
section
variable {P : Program} {w : World} {K : PySem.W.Frag} {mg : Str → Option Value} {base : Heap}
theorem ev_inU2 {σ : L2.St} {H : Hp} {ta : TE} {z : Str} {ls : List Str} {tl : TA} (ha : Ev ta σ H (.str z)) (hl : EvA tl σ H (ls.map V.str)) (h : ls.length ≤ 100000) : Ev (tOp (rIn K false) ta (tTup tl)) σ H (.bl (decide (z ∈ ls))) :=
  ev_is (ev_inU ha (eu_tup hl (by rw [List.length_map]; exact h)) rfl (flat_strs ls)) (by rw [inV_strs])
-- slots: 0 self, 1 row, 2 word
theorem SC_Shape_takes : FnScope ["self", "row", "word"] ["self", "row"] (defScope (inClass (top 53) 1)) := ⟨rfl, rfl, rfl, by decide +kernel, rfl, by decide +kernel, by decide +kernel⟩
def sp_Shape_takes (P : Program) (w : World) (K : PySem.W.Frag) : Sp := fun vs H Q _ => ∃ (a b dr dc : Addr) (s : Sh) (r : Row) (n : Nat), vs = [.ref a, .ref b] ∧ ShAt P w K H s a dr dc ∧ RowAt K H r b ∧ rowM r = true ∧ ShOk n s ∧ n ≤ 100 ∧ Tk P w K (takesM s r) a dr dc H Q
theorem me_takes (T : Txt w K mg) : Me P w K mg base CX0 3 (He.ga K "Shape") "takes" (sp_Shape_takes P w K) := by
  obtain ⟨fd, F⟩ := T.dm 58 "Shape" "takes" "Shape.takes" 53 1 rfl
  refine me0 F T.k_Shape (T.me_Shape "takes" (by decide)) SC_Shape_takes (fun vs H Q E h => by obtain ⟨a, b, dr, dc, s, r, n, rfl, S, hr0, hrm, hok, hn, k⟩ := h; rfl) (fun _ _ _ _ _ _ us hl => match us, hl with | [_, _], _ => rfl) fun cdv A outer s H vs Q E hr h => ?_
  obtain ⟨a, b, dr, dc, s, r, n, rfl, S, hr0, hrm, hok, hn, k⟩ := h
  refine ⟨_, (pss_cons (ps_set (i := 2) SC_Shape_takes.nd rfl (Or.inl rfl) (pe_ix ix_tup (pv 1) pe_int (fun _ _ => rfl)))
      (pss_cons (ps_if (pt_cmpR op_in_seq (pv 2) (pe_tup (pa_cons pe_str (pa_cons pe_str pa_nil))) (by rfl)) (pss_one (ps_ret (pm (me_takes_rule T) hr (by decide) (pv 0) (pa_cons (pv 1) pa_nil)))) pss_nil)
      (pss_cons (ps_fld (pv 0) pe_bl rfl)
      (pss_cons (ps_if (pt_cmpR op_in_seq (pv 2) (pe_tup (pa_cons pe_str (pa_cons pe_str (pa_cons pe_str pa_nil)))) (by rfl)) (pss_one (ps_ret (pe_and (pe_cmpR op_notN (pe_fld (pv 0) rfl) pe_non (nomark _)) (pe_one (pm (me_takes_line T) hr (by decide) (pv 0) (pa_cons (pv 1) pa_nil)))))) pss_nil)
      (pss_cons (ps_if (pt_cmpR op_notN (pe_fld (pv 0) rfl) pe_non (nomark _)) (pss_one (ps_ret pe_bl)) pss_nil)
      (pss_cons (ps_if (pt_cmpR op_eq (pv 2) pe_str (nomark _)) (pss_one (ps_asg (pe_tup (pa_cons (pe_ix ix_tup (pv 1) pe_int (fun _ _ => rfl)) (pa_cons pe_int (pa_cons pe_dnewK pa_nil)))) (pg_tup (n := 3) rfl (pgs_cons (pg_fld (pv 0)) (pgs_cons (pg_fld (pv 0)) (pgs_cons (pg_fld (pv 0)) pgs_nil)))))) (pss_one (ps_if (pt_cmpR op_eq (pv 2) pe_str (nomark _)) (pss_one (ps_fldaug (pv 0) pe_int in_add)) (pss_one (ps_if (pt_cmpR op_eq (pv 2) pe_str (nomark _)) (pss_one (ps_fldaug (pv 0) pe_int in_sub)) pss_nil)))))
      (pss_one (ps_ret (pe_chain op_le op_le pe_int (pe_fld (pv 0) rfl) (C8.pe_gc rfl T.g_MOST_WHENS)))))))))), ?_⟩
  obtain ⟨wd, ps, form, rfl, hf, hpm, _⟩ := rowM_at hrm
  have hr1 := hr0
  obtain ⟨vs, hq, hp⟩ := hr0
  obtain ⟨us, rfl, hpp⟩ : ∃ us, vs = .str wd :: us ∧ Paired (PartAt K H) ps us := by
    cases hp with
    | cons h0 hp =>
      cases h0 with
      | s x => exact ⟨_, rfl, hp⟩
  have hcl : s.cover.length ≤ 1000 := Nat.le_trans hok.cov (by omega)
  have hrl : s.ruled.length ≤ 1000000 := Nat.le_trans hok.ru (by omega)
  have hw : ∀ z : Str, decide (V.str wd = V.str z) = decide (wd = z) := fun z => decide_eq_decide.mpr ⟨fun h => V.str.inj h, fun h => by rw [h]⟩
  refine q_asg (ev_op (ev_var rfl) ev_c (rv_ixT hq atI_0)) fun H1 e1 => ?_
  refine q_when (b := decide (wd ∈ (["style", "counter"] : List Str))) (et_test (ev_inU2 (ev_var rfl) (ea2 ev_c ev_c) (by decide))) (fun h H2 e2 => ?_) (fun h H2 e2 => ?_)
  · have hwd : wd = "style" ∨ wd = "counter" := by
      have := of_decide_eq_true h
      simpa using this
    obtain ⟨nm, rest, rfl, hcnt⟩ := rule_parts hrm hwd
    have E2 := e1.trans e2
    obtain ⟨dx, hat⟩ := (S.ex E2).at_
    refine t_meth1 hat (ev_var rfl) (show (shFs s dr dc).lookup ("takes_rule" : Str) = none from rfl) (ev_var rfl) fun H3 e3 => ?_
    have E3 := E2.trans e3
    refine ⟨a, b, dr, dc, s, wd, nm, rest, rfl, S.ex E3, hr1.mono E3, hcnt, hrl, ?_, ?_⟩
    · intro s' dc' H' ho M S' hd
      refine k.1 s' dc' H' ?_ ((Mv.ex E3).trans M) S' (hd.imp id fun h => fresh_back E3 h)
      rw [← ho]
      unfold takesM
      simp only [if_pos hwd]
      all_goals rfl
    · intro ho H' M
      refine k.2 ?_ H' ((Mv.ex E3).trans M)
      rw [← ho]
      unfold takesM
      simp only [if_pos hwd]
      all_goals rfl
  have hwd : ¬ (wd = "style" ∨ wd = "counter") := by
    have := of_decide_eq_false h
    simpa using this
  have htk : takesM s (.s wd :: ps) = (if wd = "row" ∨ wd = "cell" ∨ wd = "close" then (match s.columns with
        | none => none
        | some c => lineM { s with begun := true } c wd ps)
      else if s.columns.isSome then none
      else if wd = "table" then (match ps with
        | .n c :: _ => whenM { s with begun := true, columns := some c, lines := 0, cover := [] }
        | _ => none)
      else if wd = "when" then whenM { s with begun := true, whens := s.whens + 1 }
      else if wd = "done" then whenM { s with begun := true, whens := s.whens - 1 }
      else whenM { s with begun := true }) := by
    unfold takesM
    simp only [if_neg hwd]
    all_goals rfl
  have E2 := e1.trans e2
  have S2 := S.ex E2
  obtain ⟨dx, hat⟩ := S2.at_
  refine q_fld ev_c (ev_var rfl) hat T.k_Shape (T.no_Shape _ (by decide)) (show 6 < 1000 by decide) fun H3 e3 => ?_
  have S3 : ShAt P w K _ { s with begun := true } a dr dc := (S2.ex e3).set (s' := { s with begun := true }) (dx := dx) rfl (S2.ex e3).co
  generalize hH4 : upd H3 a (.ins (He.ga K "Shape") dx (shFs { s with begun := true } dr dc)) = H4 at S3
  have hH4' : upd H3 a (.ins (He.ga K "Shape") dx (putF "begun" (.bl true) (shFs s dr dc))) = H4 := hH4
  rw [hH4']
  have M4 : Mv a dr dc H H4 := by rw [← hH4]; exact (Mv.ex (E2.trans e3)).upd_a
  have S4 := S3
  have hrow4 : RowAt K H4 (.s wd :: ps) b := by
    obtain ⟨vs, h8, h9⟩ := hr1.mono (E2.trans e3)
    have hat3 := e3 _ _ hat
    have mv : ∀ {p xs}, SqT K H3 p xs → SqT K H4 p xs := fun h => by rw [← hH4]; exact sqt_ne h hat3 (fun _ h => by cases h) (fun _ _ h => by cases h)
    refine ⟨vs, mv h8, Paired.mono (fun p v h => ?_) h9⟩
    cases h with
    | z => exact .z
    | n i => exact .n i
    | s h => exact .s h
    | t h hx hl => exact .t (mv h) hx hl
  refine q_when (b := decide (wd ∈ (["row", "cell", "close"] : List Str))) (et_test (ev_inU2 (ev_var rfl) (ea_cons ev_c (ea2 ev_c ev_c)) (by decide))) (fun h H5 e5 => ?_) (fun h H5 e5 => ?_)
  · have hwl : wd = "row" ∨ wd = "cell" ∨ wd = "close" := by
      have := of_decide_eq_true h
      simpa using this
    rw [if_pos hwl] at htk
    have S5 := S4.ex e5
    refine s_retAnd (b := s.columns.isSome) (ev_is (ev_op (ev_cols T S5 (ev_var rfl)) ev_c rv_isn) (by cases s.columns <;> rfl)) (fun hc H6 e6 => k.2 ?_ H6 (M4.trans (Mv.ex (e5.trans e6)))) (fun hc H6 e6 => ?_)
    · cases hcc : s.columns with
      | none => rw [htk, hcc]
      | some c => rw [hcc] at hc; cases hc
    · obtain ⟨c, hcc⟩ := Option.isSome_iff_exists.mp hc
      have htk := htk.trans (colMatch s c hcc _)
      have S6 := S5.ex e6
      obtain ⟨dx6, hat6⟩ := S6.at_
      refine t_meth1 hat6 (ev_var rfl) (show (shFs { s with begun := true } dr dc).lookup ("takes_line" : Str) = none from rfl) (ev_var rfl) fun H7 e7 => ?_
      have E7 := (e5.trans e6).trans e7
      obtain ⟨c1, c2⟩ := hok.col c hcc
      refine ⟨a, b, dr, dc, { s with begun := true }, wd, ps, c, rfl, S6.ex e7, hrow4.mono E7, hcc, c1, c2, hcl, hok.nd, fun h => cell_parts hrm h, ?_, ?_⟩
      · intro s' dc' H' ho M S' hd
        refine k.1 s' dc' H' (htk.trans ho) ((M4.trans (Mv.ex E7)).trans M) S' (hd.imp id fun h => ?_)
        have h9 := fresh_back E7 h
        rw [← hH4] at h9
        by_cases hda : dc' = a
        · subst hda
          rw [upd_same] at h9
          cases h9
        · rw [upd_ne hda] at h9
          exact fresh_back (E2.trans e3) h9
      · intro ho H' M
        exact k.2 (htk.trans ho) H' ((M4.trans (Mv.ex E7)).trans M)
  have hwl : ¬ (wd = "row" ∨ wd = "cell" ∨ wd = "close") := by
    have := of_decide_eq_false h
    simpa using this
  rw [if_neg hwl] at htk
  have S5 := S4.ex e5
  have M5 : Mv a dr dc H H5 := M4.trans (Mv.ex e5)
  refine q_when (b := s.columns.isSome) (et_is (et_test (ev_op (ev_cols T S5 (ev_var rfl)) ev_c rv_isn)) (by cases s.columns <;> rfl)) (fun hc H6 e6 => s_ret ev_c fun H7 e7 => k.2 (by rw [htk, hc]; rfl) H7 (M5.trans (Mv.ex (e6.trans e7)))) (fun hc H6 e6 => ?_)
  rw [hc] at htk
  simp only [Bool.false_eq_true, if_false] at htk
  have S6 := S5.ex e6
  have M6 := M5.trans (Mv.ex e6)
  -- the end: the count of whens
  have fin : ∀ (s' : Sh) (dc' : Addr) (H8 : Hp) (σ : L2.St) {D' : Ends}, D'.rt = Q → Mv a dr dc H H8 → ShAt P w K H8 s' a dr dc' → (dc' = dc ∨ H dc' = none) → takesM s (.s wd :: ps) = whenM s' → σ[0]? = some (some (.ref a)) →
      tRet (tChain (rI0 fun i j => .bl (decide (i ≤ j))) (rI0 fun i j => .bl (decide (i ≤ j))) (tC (.int 0)) (tFld K (tVar 0) "whens") (tC (.int 3))) D' σ H8 := by
    intro s' dc' H8 σ D' hrt M8 S8 hd htk h0
    refine s_ret (ev_chain ev_c (ev_whens T S8 (ev_var h0)) ev_c) fun H9 e9 => ?_
    rw [hrt]
    by_cases h1 : 0 ≤ s'.whens
    · by_cases h2 : s'.whens ≤ 3
      · have : (decide (0 ≤ s'.whens) && decide (s'.whens ≤ 3)) = true := by rw [decide_eq_true h1, decide_eq_true h2]; rfl
        rw [this]
        exact k.1 s' dc' H9 (by rw [htk]; unfold whenM; rw [if_pos h1, if_pos h2]) (M8.trans (Mv.ex e9)) (S8.ex e9) hd
      · have : (decide (0 ≤ s'.whens) && decide (s'.whens ≤ 3)) = false := by rw [decide_eq_true h1, decide_eq_false h2]; rfl
        rw [this]
        exact k.2 (by rw [htk]; unfold whenM; rw [if_pos h1, if_neg h2]) H9 (M8.trans (Mv.ex e9))
    · have : (decide (0 ≤ s'.whens) && decide (s'.whens ≤ 3)) = false := by rw [decide_eq_false h1]; rfl
      rw [this]
      exact k.2 (by rw [htk]; unfold whenM; rw [if_neg h1]) H9 (M8.trans (Mv.ex e9))
  refine q_if (b := decide (wd = "table")) (et_is (et_test (ev_op (ev_var rfl) ev_c (rv_eq rfl))) (hw _)) (fun h H7 e7 => ?_) (fun h H7 e7 => ?_)
  · have hwt : wd = "table" := of_decide_eq_true h
    rw [if_pos hwt] at htk
    obtain ⟨c, xs, rfl, c1, c6⟩ := table_parts hrm hwt
    simp only at htk
    have S7 := S6.ex e7
    have E7 := (e5.trans e6).trans e7
    have M7 := M6.trans (Mv.ex e7)
    obtain ⟨vs, hq7, hp7⟩ := hrow4.mono E7
    obtain ⟨tp, rfl⟩ : ∃ tp, vs = [.str wd, .int c, .ref tp] := by
      cases hp7 with
      | cons h0 hp =>
        cases hp with
        | cons h1 hp =>
          cases hp with
          | cons h2 hp =>
            cases hp
            cases h0
            cases h1
            cases h2
            exact ⟨_, rfl⟩
    have hix : Ev (tOp (rIxT K) (tVar 1) (tC (.int 1))) ((start ["self", "row", "word"] [.ref a, .ref b]).set 2 (some (.str wd))) H7 (.int c) := ev_op (ev_var rfl) ev_c (rv_ixT hq7 rfl)
    refine s_asg3 (D := { nx := _, rt := Q }) hix ev_c ed_new fun p q H8 hpn e8 hpd hqt => ?_
    have S8 := S7.ex e8
    obtain ⟨dx8, hat8⟩ := S8.at_
    have hpa : p ≠ a := fun e => by
      subst e
      rw [hat8] at hpd
      cases hpd
    refine ⟨q, _, rfl, st_of hqt, rfl, .int c, _, rfl, g_fld (ev_var rfl) hat8 T.k_Shape (T.no_Shape _ (by decide)) (show 6 < 1000 by decide) fun H9 e9 => ?_⟩
    refine ⟨.int 0, _, rfl, g_fld (ev_var rfl) upd_same T.k_Shape (T.no_Shape _ (by decide)) (Nat.lt_of_le_of_lt (putF_len _ _ _) (show 7 < 1000 by decide)) fun H10 e10 => ?_⟩
    refine ⟨.ref p, [], rfl, g_fld (ev_var rfl) upd_same T.k_Shape (T.no_Shape _ (by decide)) (Nat.lt_of_le_of_lt (Nat.le_trans (putF_len _ _ _) (Nat.add_le_add_right (putF_len _ _ _) 1)) (show 8 < 1000 by decide)) fun H11 e11 => ⟨rfl, ?_⟩⟩
    have M11 : Mv a dr dc H H11 := (((M7.trans (Mv.ex (e8.trans e9))).upd_a.trans (Mv.ex e10)).upd_a).trans (Mv.ex e11)
    have hpd11 : H11 p = some (.dK []) := e11 _ _ (by rw [upd_ne hpa]; exact e10 _ _ (by rw [upd_ne hpa]; exact e9 _ _ hpd))
    have hdr11 : ∀ o, H8 dr = some o → H11 dr = some o := fun o h => e11 _ _ (by rw [upd_ne S8.ne.1]; exact e10 _ _ (by rw [upd_ne S8.ne.1]; exact e9 _ _ h))
    have hsq : ∀ {pp xs}, SqT K H8 pp xs → SqT K H11 pp xs := fun h => ex_t e11 (sqt_ne (ex_t e10 (sqt_ne (ex_t e9 h) (e9 _ _ hat8) (fun _ h => by cases h) (fun _ _ h => by cases h))) (e10 _ _ upd_same) (fun _ h => by cases h) (fun _ _ h => by cases h))
    have S11 : ShAt P w K (upd H11 a (.ins (He.ga K "Shape") dx8 (shFs { s with begun := true, columns := some c, lines := 0, cover := [] } dr p))) { s with begun := true, columns := some c, lines := 0, cover := [] } a dr p := by
      refine ⟨⟨dx8, upd_same⟩, ?_, by rw [upd_ne hpa]; exact hpd11⟩
      have hru : Ruled P w K H11 dr s.ruled := S8.ru.mono hdr11 fun p xs h => hsq h
      exact hru.upd (Ne.symm S8.ne.1) (fun xs e => by rw [e11 _ _ upd_same] at e; cases e) (fun q xs e => by rw [e11 _ _ upd_same] at e; cases e)
    have hpH : H p = none := by
      cases hh : H p with
      | none => rfl
      | some o =>
        exfalso
        have n2 : p ≠ dc := fun e => by subst e; rw [S7.co] at hpn; cases hpn
        have n3 : p ≠ dr := fun e => by
          subst e
          obtain ⟨_, h9, _⟩ := S7.ru
          rw [h9] at hpn
          cases hpn
        have := M7 p o hpa n3 n2 hh
        rw [hpn] at this
        cases this
    exact fin _ p _ _ rfl M11.upd_a S11 (.inr hpH) htk rfl
  have hwt : ¬ wd = "table" := of_decide_eq_false h
  rw [if_neg hwt] at htk
  have S7 := S6.ex e7
  have M7 := M6.trans (Mv.ex e7)
  refine s_if (b := decide (wd = "when")) (et_is (et_test (ev_op (ev_var rfl) ev_c (rv_eq rfl))) (hw _)) (fun h H8 e8 => ?_) (fun h H8 e8 => ?_)
  · rw [if_pos (of_decide_eq_true h)] at htk
    obtain ⟨dx8, hat8⟩ := (S7.ex e8).at_
    refine s_fldaug (ev_var rfl) hat8 T.k_Shape (T.no_Shape _ (by decide)) (show (shFs { s with begun := true } dr dc).lookup ("whens" : Str) = some (.int s.whens) from rfl) ev_c (show 6 < 1000 by decide) (fun H Q q => ⟨s.whens, 1, rfl, rfl, q⟩) fun H9 e9 => ?_
    have S9 : ShAt P w K _ { s with begun := true, whens := s.whens + 1 } a dr dc := ((S7.ex e8).ex e9).set (s' := { s with begun := true, whens := s.whens + 1 }) (dx := dx8) rfl ((S7.ex e8).ex e9).co
    exact fin _ dc _ _ rfl (((M7.trans (Mv.ex (e8.trans e9)))).upd_a) S9 (.inl rfl) htk rfl
  rw [if_neg (of_decide_eq_false h)] at htk
  refine s_when (b := decide (wd = "done")) (et_is (et_test (ev_op (ev_var rfl) ev_c (rv_eq rfl))) (hw _)) (fun h H9 e9 => ?_) (fun h H9 e9 => ?_)
  · rw [if_pos (of_decide_eq_true h)] at htk
    obtain ⟨dx8, hat8⟩ := ((S7.ex e8).ex e9).at_
    refine s_fldaug (ev_var rfl) hat8 T.k_Shape (T.no_Shape _ (by decide)) (show (shFs { s with begun := true } dr dc).lookup ("whens" : Str) = some (.int s.whens) from rfl) ev_c (show 6 < 1000 by decide) (fun H Q q => ⟨s.whens, 1, rfl, rfl, q⟩) fun H10 e10 => ?_
    have S9 : ShAt P w K _ { s with begun := true, whens := s.whens - 1 } a dr dc := (((S7.ex e8).ex e9).ex e10).set (s' := { s with begun := true, whens := s.whens - 1 }) (dx := dx8) rfl (((S7.ex e8).ex e9).ex e10).co
    exact fin _ dc _ _ rfl ((M7.trans (Mv.ex ((e8.trans e9).trans e10))).upd_a) S9 (.inl rfl) htk rfl
  · rw [if_neg (of_decide_eq_false h)] at htk
    exact fin _ dc _ _ rfl (M7.trans (Mv.ex (e8.trans e9))) ((S7.ex e8).ex e9) (.inl rfl) htk rfl
end
end Pk
set_option Elab.async false
set_option linter.all false
set_option maxRecDepth 100000
set_option maxHeartbeats 4000000
namespace Pk
open PySem PySem.Spec PyProof.Rows L2 Evl
section
variable {P : Program} {w : World} {K : PySem.W.Frag} {mg : Str → Option Value} {base : Heap}
/-! ### the rows of a text as a value -/
def RowsAt (K : PySem.W.Frag) (H : Hp) (rows : List Row) (b : Addr) : Prop := ∃ as : List Addr, SqT K H b (as.map .ref) ∧ Paired (fun r a => RowAt K H r a) rows as
theorem RowsAt.mono {H H' : Hp} {rows : List Row} {b : Addr} (e : Ex H H') (h : RowsAt K H rows b) : RowsAt K H' rows b := by
  obtain ⟨as, h1, h2⟩ := h
  exact ⟨as, ex_t e h1, Paired.mono (fun r a h => h.mono e) h2⟩
/-- what new things may be changed -/
theorem mv_ex {H0 H1 H2 : Hp} {a dr dc : Addr} (e : Ex H0 H1) (ha : H0 a = none) (hr : H0 dr = none) (hc : H0 dc = none) (m : Mv a dr dc H1 H2) : Ex H0 H2 := fun b o hb =>
  m b o (fun e => by subst e; rw [ha] at hb; cases hb) (fun e => by subst e; rw [hr] at hb; cases hb) (fun e => by subst e; rw [hc] at hb; cases hb) (e b o hb)
theorem none_back {H0 H1 : Hp} {a : Addr} (e : Ex H0 H1) (h : H1 a = none) : H0 a = none := fresh_back e h
/-- Shape() -/
theorem make_Shape {σ : L2.St} {H : Hp} : EvR (tMake (He.ga K "Shape") (sp_Shape_init P w K) [] E0 tNil) σ H fun v H' => ∃ a dr dc, v = .ref a ∧ H a = none ∧ H dr = none ∧ H dc = none ∧ Ex H H' ∧ ShAt P w K H' sh0 a dr dc := fun Q k => fun x dx hx hdx hne => by
  refine ⟨x, dx, rfl, upd_same, fun H' dr dc ho h1 h2 S => ⟨rfl, ?_⟩⟩
  have bk : ∀ {p}, (upd (upd H dx (.own x)) x (.ins (He.ga K "Shape") dx [])) p = none → H p = none := fun {p} h => by
    by_cases h3 : p = x
    · subst h3; exact hx
    · rw [upd_ne h3] at h
      by_cases h4 : p = dx
      · subst h4; exact hdx
      · rw [upd_ne h4] at h; exact h
  refine k _ H' ⟨x, dr, dc, rfl, hx, bk h1, bk h2, fun b o hb => ?_, S⟩
  have n1 : b ≠ x := fun e => by subst e; rw [hx] at hb; cases hb
  have n2 : b ≠ dx := fun e => by subst e; rw [hdx] at hb; cases hb
  exact ho b o n1 (by rw [upd_ne n1, upd_ne n2]; exact hb)
theorem stand_split {rows : List Row} (h : standM rows = true) : ∃ s, standGo sh0 rows = some s ∧ openM s = false := by
  unfold standM at h
  cases e : standGo sh0 rows with
  | none => rw [e] at h; cases h
  | some s => rw [e] at h; exact ⟨s, rfl, bnt h⟩
theorem stand_cons {s : Sh} {r : Row} {rs : List Row} : standGo s (r :: rs) = (if rowM r then (match takesM s r with
    | none => none
    | some s' => standGo s' rs) else none) := rfl
-- slots: 0 rows, 1 shape, 2 place, 3 row
theorem SC_first_amiss : FnScope ["rows", "shape", "place", "row"] ["rows"] (defScope (top 56)) := ⟨rfl, rfl, rfl, by decide +kernel, rfl, by decide +kernel, by decide +kernel⟩
def sp_first_amiss (K : PySem.W.Frag) : Sp := fun vs H Q _ => ∃ (b : Addr) (rows : List Row), vs = [.ref b] ∧ RowsAt K H rows b ∧ standM rows = true ∧ rows.length ≤ 80 ∧ RetV .non H Q
theorem cl_first_amiss (T : Txt w K mg) : Cl P w K mg base CX0 9 "first_amiss" (sp_first_amiss K) := by
  obtain ⟨fd, F, hm⟩ := T.df 24 "first_amiss" 56 rfl
  refine cl0 F hm SC_first_amiss (fun vs H Q E h => by obtain ⟨b, rows, rfl, hrows, hst, hl, k⟩ := h; rfl) (fun _ _ _ _ _ _ us hl => match us, hl with | [_], _ => rfl) fun cdv A outer s H vs Q E hr h => ?_
  obtain ⟨b, rows, rfl, hrows, hst, hl, k⟩ := h
  refine ⟨_, (pss_cons (ps_set (i := 1) SC_first_amiss.nd rfl (Or.inl rfl) (pmk0 (mk_Shape T) hr (by decide) rfl))
      (pss_cons (ps_for PassesOwn.never rfl (pi_enumT rfl T.f_enumerate (pa_cons (pv 0) pa_nil)) (pg_tup (n := 2) rfl (pgs_cons (pg_name (i := 2) SC_first_amiss.nd rfl (Or.inl rfl)) (pgs_cons (pg_name (i := 3) SC_first_amiss.nd rfl (Or.inl rfl)) pgs_nil)))
        (pss_one (ps_if (PW.pt (pw_or (pt_not (pt_val (pc (cl_is_row T) hr (by decide) rfl (pa_cons (pv 3) pa_nil)))) (pw_or1 (pt_not (pt_val (pm (me_takes T) hr (by decide) (pv 1) (pa_cons (pv 3) pa_nil))))))) (pss_one (ps_ret (pv 2))) pss_nil)))
      (pss_one (ps_ret (pe_ifExp (pt_val (pm0 (me_is_open T) hr (by decide) (pv 1))) (pe_callB call_len_seq rfl T.f_len boot_len (pa_cons (pv 0) pa_nil)) pe_non))))), ?_⟩
  obtain ⟨as, hq, hp⟩ := hrows
  obtain ⟨sE, hsE, hoE⟩ := stand_split hst
  have hal : as.length = rows.length := (Paired.length hp).symm
  refine q_asgR make_Shape fun v H1 hv => ?_
  obtain ⟨sa, dr, dc, rfl, fa, fr, fc, e1, S1⟩ := hv
  refine q_forW walk_enumT (hwi_enumT (ev_var rfl) (ex_t e1 hq)) (fun i σ' H' => Ex H H' ∧ ∃ (s : Sh) (dc' : Addr) (x y : Option V), σ' = [some (.ref b), some (.ref sa), x, y] ∧ ShAt P w K H' s sa dr dc' ∧ H dc' = none ∧ ShOk i s ∧ standGo s (rows.drop i) = some sE)
    (fun H2 e2 => ⟨e1.trans e2, sh0, dc, none, none, rfl, S1.ex e2, fc, shOk_0, hsE⟩) (fun i σ' H' _ p => ex_t p.1 hq) (fun i v σ' H2 H3 hi p hy => ?_) (fun σ' H' p => ?_)
  · obtain ⟨e2, s, dc', x0, y0, rfl, S2, fc2, ok2, inv⟩ := p
    refine y_pair hy fun x y hx1 hy1 e3 => ?_
    injection hx1 with hx1
    subst hx1
    obtain ⟨ra, hra, rfl⟩ := map_at hy1
    obtain ⟨r, hr1, hrow⟩ := paired_right hp hra
    have hi2 : i < rows.length := by
      have := (List.getElem?_eq_some_iff.mp hr1).1
      exact this
    rw [drop_at hr1, stand_cons] at inv
    have hrm : rowM r = true := by
      cases e : rowM r with
      | true => rfl
      | false => rw [e] at inv; cases inv
    rw [hrm, if_pos rfl] at inv
    obtain ⟨s', ht, inv2⟩ : ∃ s', takesM s r = some s' ∧ standGo s' (rows.drop (i + 1)) = some sE := by
      cases e : takesM s r with
      | none => rw [e] at inv; cases inv
      | some s' => rw [e] at inv; exact ⟨s', rfl, inv⟩
    have E3 := e2.trans e3
    have hrow3 := hrow.mono E3
    have S3 := S2.ex e3
    obtain ⟨wd, ps, form, rfl, hf, hpm, _⟩ := rowM_at hrm
    refine s_whenR (R := fun b H' => b = false ∧ Ex H H' ∧ ∃ (s : Sh) (dc' : Addr), ShAt P w K H' s sa dr dc' ∧ H dc' = none ∧ ShOk (i + 1) s ∧ standGo s (rows.drop (i + 1)) = some sE) (or_R (b := false) (et_not (et_B (b := true) (ev_is (ev_callV (ea1 (ev_var (v := .ref ra) rfl)) fun H4 e4 Q k => ⟨ra, wd, ps, form, rfl, hrow3.mono e4, hf, parts_len hpm, k⟩) (by rw [hrm])))) (fun h => by cases h) (fun _ H4 e4 => not_R (tB_R fun Q q => ?_))) (fun H4 r => by cases r.1) (fun H4 r => ?_)
    rotate_left
    · obtain ⟨_, E4, s4, dc4, S4, f4, ok4, inv4⟩ := r
      exact ⟨E4, s4, dc4, _, _, rfl, S4, f4, ok4, inv4⟩
    have S4 := S3.ex e4
    obtain ⟨dx, hat⟩ := S4.at_
    refine t_meth1 hat (ev_var rfl) (show (shFs s dr dc').lookup ("takes" : Str) = none from rfl) (ev_var rfl) fun H5 e5 => ?_
    refine ⟨sa, ra, dr, dc', s, .s wd :: ps, i, rfl, S4.ex e5, hrow3.mono (e4.trans e5), hrm, ok2, by omega, ?_, fun hn => ?_⟩
    · intro s2 dc2 H6 hs2 M6 S6 hd
      rw [ht] at hs2
      cases hs2
      have E6 : Ex H H6 := mv_ex (E3.trans (e4.trans e5)) fa fr fc2 M6
      exact q _ _ ⟨true, rfl, rfl, E6, s', dc2, S6, hd.elim (fun e => by rw [e]; exact fc2) fun h => none_back (E3.trans (e4.trans e5)) h, takes_ok ok2 hrm ht, inv2⟩
    · rw [ht] at hn
      cases hn
  · obtain ⟨e2, s, dc', x0, y0, rfl, S2, fc2, ok2, inv⟩ := p
    rw [List.length_map, hal, List.drop_length] at inv
    have hs : s = sE := by
      have : some s = some sE := inv
      exact Option.some.inj this
    subst hs
    obtain ⟨dx, hat⟩ := S2.at_
    refine s_ret (v := .non) (ev_if (b := false) (et_is (et_B (b := openM s) fun H3 e3 Q q => t_meth0 (e3 _ _ hat) (ev_var rfl) (show (shFs s dr dc').lookup ("is_open" : Str) = none from rfl) fun H4 e4 => ⟨sa, dr, dc', s, rfl, S2.ex (e3.trans e4), fun H5 e5 => q H5 (Ex.trans e4 e5)⟩) hoE) (fun h => by cases h) fun _ => ev_c) fun H3 e3 => k H3 (e2.trans e3)
end
end Pk
set_option Elab.async false
set_option linter.all false
set_option maxRecDepth 100000
set_option maxHeartbeats 4000000
namespace Pk
open PySem PySem.Spec PyProof.Rows L2 Evl
section
variable {X : Cx} {e : Expr} {es : List Expr} {ta : TA} {p1 p2 p pos : Pos}
/-- TongueError.__init__(self, ..) -/
theorem pe_teinit {pl : Sem Bool} (te : TeInit X.K (He.ga X.K "TongueError")) (hm : X.mg "TongueError" = some (.ref (He.ga X.K "TongueError"))) (hg : Gl X "TongueError") (ha : PA X (e :: es) ta)
    (hc : eval (.Call (.Attribute (.Name "TongueError" p1) "__init__" p2) (e :: es) [] pos) X.env = (do
      let ov ← eval (.Name "TongueError" p1) X.env
      standAt p2.atName
      let (f, first) ← holding [ov] (getMethod ov "__init__" pl)
      callWith pos f first (backTo pos (starEach (e :: es) X.env)) (backToKw pos (keywordEach [] X.env))) := by rfl)
    (he : starEach (e :: es) X.env = (false, eval e X.env) :: starEach es X.env := by rfl) (hpl : (backTo pos (starEach es X.env)).any (·.1) = false := by rfl) :
    PE X (.Call (.Attribute (.Name "TongueError" p1) "__init__" p2) (e :: es) [] pos) (tVeI X.K ta) := by
  refine ⟨fun pins s σ H Q I h => ?_⟩
  refine PySem.W.methodCall_KW (ld_glob I hg hm ?_ (by decide)) hc
  refine PySem.W.method_cls I.kIn te.sp (PySem.W.cls_value I.kIn te.rd te.at_ (by decide +kernel) ?_)
  show wpAny _ _ (callWith pos (Value.builtin "ValueError.__init__") [] (backTo pos (starEach (e :: es) X.env)) []) _ _ _
  refine PyProof.Rows.callWith_method1 (thn (ha.run pos pins _ σ H _ (I.tok _) h) fun us s1 ⟨vs, H1, I1, r1, a, C, ws, ev, hl, T, ea, q⟩ => ?_) he hpl
  subst ev
  cases r1 with
  | @cons _ u0 _ ur ra rw' =>
    obtain rfl : u0 = Value.ref a := ra
    have hlen : ur.length ≤ sizeLine := by
      rw [← Paired.length rw', sizeLine_eq]
      omega
    exact oinit_ok T I1 ea hlen fun s' J => ⟨.non, H1, J, rfl, q⟩
end
section
variable {P : Program} {w : World} {K : PySem.W.Frag} {mg : Str → Option Value} {base : Heap}
-- slots: 0 self, 1 row
theorem SC_NoText_init : FnScope ["self", "row"] ["self", "row"] (defScope (inClass (top 4) 0)) := ⟨rfl, rfl, rfl, by decide +kernel, rfl, by decide +kernel, by decide +kernel⟩
def sp_NoText_init (K : PySem.W.Frag) : Sp := fun vs H Q _ => ∃ (a : Addr) (n : Int), vs = [.ref a, .int n] ∧ H a = some (exo a (He.ga K "NoText") none) ∧ ∀ d H2, H d = none → (∀ b o, b ≠ a → H b = some o → H2 b = some o) → H2 a = some (exo a (He.ga K "NoText") (some d)) → H2 d = some (exd d [("row", .int n)]) → Q .non H2
theorem fn_NoText (T : Txt w K mg) : ∃ fd, FnOk P w K mg base CX0 1 (He.ma K (He.ga K "NoText") "__init__") fd ["self", "row"] (sp_NoText_init K) ∧ Binds K fd ["self", "row"] [] := by
  obtain ⟨fd, F⟩ := T.dm 56 "NoText" "__init__" "NoText.__init__" 4 0 rfl
  refine ⟨fd, F.ok SC_NoText_init (fun vs H Q E h => by obtain ⟨a, n, rfl, _⟩ := h; rfl) fun cdv A outer s H vs Q E hr h => ?_, F.bindsN fun _ _ _ _ _ _ us hl => match us, hl with | [_, _], _ => rfl⟩
  obtain ⟨a, n, rfl, ha, k⟩ := h
  suffices hh : ∃ t, PSs (cxOf CX0 P w K mg base ["self", "row"] "NoText.__init__" (defScope (inClass (top 4) 0)) (He.ma K (He.ga K "NoText") "__init__") cdv A outer s H E).nox (defBody (inClass (top 4) 0)) t ∧ t { nx := fun _ H' => Q .non H', rt := Q } (start ["self", "row"] [.ref a, .int n]) H by
    obtain ⟨t, h1, h2⟩ := hh
    exact ⟨t, h1.nox, h2⟩
  refine ⟨_, pss_cons (ps_expr (pe_teinit T.te_init T.gl_TongueError rfl (pa_cons (pv 0) (pa_cons pe_str pa_nil)))) (pss_one (ps_ost (pv 0) (pv 1))), ?_⟩
  refine ⟨.ref a, rfl, a, He.ga K "NoText", [_], rfl, by decide, T.x_NoText, ha, ?_⟩
  refine ⟨.int n, rfl, .ref a, rfl, a, He.ga K "NoText", rfl, T.x_NoText, T.no_NoText, .inl ⟨ha, fun dx hdx hne => ?_⟩⟩
  exact k dx _ hdx (fun b o hb hbo => by rw [upd_ne hb, upd_ne (fun e => by subst e; rw [hdx] at hbo; cases hbo)]; exact hbo) upd_same (by rw [upd_ne hne]; exact upd_same)
end
/-- NoText(n) made -/
theorem pmk_NoText {X : Cx} {j : Nat} {e : Expr} {es : List Expr} {ta : TA} {p pos : Pos} (T : Txt X.w X.K X.mg) (hr : Room j X.A) (hk : 2 ≤ j) (hg : Gl X "NoText") (ha : PA X (e :: es) ta)
    (he : starEach (e :: es) X.env = (false, eval e X.env) :: starEach es X.env := by rfl) (hpl : (backTo pos (starEach es X.env)).any (·.1) = false := by rfl) :
    PMk X (.Call (.Name "NoText" p) (e :: es) [] pos) (tMkO (He.ga X.K "NoText") (sp_NoText_init X.K) [] ta) := by
  obtain ⟨fd, F, b⟩ := fn_NoText (P := X.prog) (base := X.base) T
  exact pmk_oex T.x_NoText T.i_NoText T.ty_NoText F (hr.mono hk) b .nil pass0 hg T.gl_NoText ha (by decide) he hpl
/-- .. read: it is raised, a new dict beside -/
theorem mkO_NoText {K : PySem.W.Frag} {σ : L2.St} {H : Hp} {te : TE} {n : Int} {Q : XK} (h : Ev te σ H (.int n)) (k : ∀ d H', Ex H H' → Q (.ref (He.ga K "NoText")) (some d) H') : tMkO (He.ga K "NoText") (sp_NoText_init K) [] (tCons te tNil) σ H Q :=
  h H (Ex.refl _) _ fun H1 e1 => ⟨by show 1 ≤ 1000; decide, fun a ha => ⟨a, n, rfl, upd_same, fun d H2 hd ho h1 h2 => by
    have hda : d ≠ a := fun e => by subst e; rw [upd_same] at hd; cases hd
    rw [upd_ne hda] at hd
    refine ⟨rfl, d, _, h1, h2, hd, k d _ fun b o hb => ?_⟩
    have nb : b ≠ a := fun e => by subst e; rw [e1 _ _ hb] at ha; cases ha
    have nd : b ≠ d := fun e => by subst e; rw [e1 _ _ hb] at hd; cases hd
    rw [upd_ne nd, del_ne nb]
    exact ho b o nb (by rw [upd_ne nb]; exact e1 _ _ hb)⟩⟩
section
variable {P : Program} {w : World} {K : PySem.W.Frag} {mg : Str → Option Value} {base : Heap}
-- slots: 0 text
theorem SC_lines_in : FnScope ["text"] ["text"] (defScope (top 60)) := ⟨rfl, rfl, rfl, by decide +kernel, rfl, by decide +kernel, by decide +kernel⟩
def sp_lines_in (K : PySem.W.Frag) : Sp := fun vs H Q _ => ∃ z : Str, vs = [.str z] ∧ z.length ≤ 1000000 ∧ RetL ((Txt.split z lf).map .str) H Q
theorem cl_lines_in (T : Txt w K mg) : Cl P w K mg base CX0 1 "lines_in" (sp_lines_in K) := by
  obtain ⟨fd, F, hm⟩ := T.df 25 "lines_in" 60 rfl
  refine cl0 F hm SC_lines_in (fun vs H Q E h => by obtain ⟨z, rfl, hz, k⟩ := h; rfl) (fun _ _ _ _ _ _ us hl => match us, hl with | [_], _ => rfl) fun cdv A outer s H vs Q E hr h => ?_
  obtain ⟨z, rfl, hz, k⟩ := h
  refine ⟨_, (pss_one (ps_ret (pe_split (pv 0) pe_str))), ?_⟩
  exact s_retL (el_split (ev_var rfl) ev_c rfl hz) fun p H1 hp e1 h1 => k p H1 hp e1 h1
/-! ### a text as a value -/
def TextAt (K : PySem.W.Frag) (H : Hp) (rows : List Row) (a : Addr) : Prop := ∃ dx b, H a = some (.ins (He.ga K "Text") dx [("rows", .ref b)]) ∧ RowsAt K H rows b
theorem TextAt.mono {H H' : Hp} {rows : List Row} {a : Addr} (e : Ex H H') (h : TextAt K H rows a) : TextAt K H' rows a := by
  obtain ⟨dx, b, h1, h2⟩ := h
  exact ⟨dx, b, e _ _ h1, h2.mono e⟩
-- slots: 0 self, 1 rows, 2 place
theorem SC_Text_init : FnScope ["self", "rows", "place"] ["self", "rows"] (defScope (inClass (top 57) 0)) := ⟨rfl, rfl, rfl, by decide +kernel, rfl, by decide +kernel, by decide +kernel⟩
def sp_Text_init (K : PySem.W.Frag) : Sp := fun vs H Q _ => ∃ (a b dx : Addr) (rows : List Row), vs = [.ref a, .ref b] ∧ H a = some (.ins (He.ga K "Text") dx []) ∧ RowsAt K H rows b ∧ standM rows = true ∧ rows.length ≤ 80 ∧ ∀ H', Ex H H' → Q .non (upd H' a (.ins (He.ga K "Text") dx [("rows", .ref b)]))
theorem mk_Text (T : Txt w K mg) : Mkr P w K mg base CX0 10 "Text" (sp_Text_init K) := by
  obtain ⟨fd, F⟩ : ∃ fd, FunD K "__init__" "Text.__init__" (defArgs (inClass (top 57) 0)) (defBody (inClass (top 57) 0)) (defScope (inClass (top 57) 0)) [.ref (dflAt0 "Text" K)] [] (He.ma K (He.ga K "Text") "__init__") fd := T.fn 63 _ rfl
  refine ⟨_, fd, ["self", "rows"], T.mk_Text, F.ok SC_Text_init (fun vs H Q E h => by obtain ⟨a, b, dx, rows, rfl, _⟩ := h; rfl) fun cdv A outer s H vs Q E hr h => ?_, T.gl_Text, ?_⟩
  · obtain ⟨a, b, dx, rows, rfl, ha, hrows, hst, hl, k⟩ := h
    suffices hh : ∃ t, PSs (cxOf CX0 P w K mg base ["self", "rows", "place"] "Text.__init__" (defScope (inClass (top 57) 0)) (He.ma K (He.ga K "Text") "__init__") cdv A outer s H E).nox (defBody (inClass (top 57) 0)) t ∧ t { nx := fun _ H' => Q .non H', rt := Q } (start ["self", "rows", "place"] [.ref a, .ref b]) H by
      obtain ⟨t, h1, h2⟩ := hh
      exact ⟨t, h1.nox, h2⟩
    refine ⟨_, (pss_cons (ps_if (PW.pt (pw_or (pt_not (pt_val (pe_callB call_is rfl T.f_isinstance boot_isinstance (pa_cons (pv 1) (pa_cons (pe_ty rfl T.f_tuple boot_tuple) pa_nil))))) (pw_or1 (pt_cmpR op_gt (pe_callB call_len_seq rfl T.f_len boot_len (pa_cons (pv 1) pa_nil)) (C8.pe_gc rfl T.g_MOST_ROWS) (nomark _))))) (pss_one ps_never) pss_nil)
      (pss_cons (ps_set (i := 2) SC_Text_init.nd rfl (Or.inl rfl) (pc (cl_first_amiss T) hr (by decide) rfl (pa_cons (pv 1) pa_nil)))
      (pss_cons (ps_if (pt_cmpR op_notN (pv 2) pe_non (nomark _)) (pss_one ps_never) pss_nil)
      (pss_one (ps_fld (pv 0) (pv 1) rfl))))), ?_⟩
    have hrows2 := hrows
    obtain ⟨as, hq, hp⟩ := hrows
    have hal : as.length = rows.length := (Paired.length hp).symm
    refine q_when (b := false) (et_is (et_or (et_not (et_B (ev_isi (ev_var rfl) (.tup hq) rfl))) fun _ => et_test (ev_op (ev_cb (ea1 (ev_var rfl)) (rc_lenT hq)) ev_c rv_I0)) ?_) (fun h => by cases h) (fun _ H1 e1 => ?_)
    · rw [List.length_map, hal, decide_eq_false (by omega)]; rfl
    refine q_asg (ev_callV (ea1 (ev_var rfl)) fun H2 e2 Q k => ⟨b, rows, rfl, hrows2.mono (e1.trans e2), hst, hl, k⟩) fun H2 e2 => ?_
    refine q_when (b := false) (et_test (ev_op (ev_var rfl) ev_c rv_isn)) (fun h => by cases h) (fun _ H3 e3 => ?_)
    exact s_fld (ev_var rfl) (ev_var rfl) (((e1.trans e2).trans e3) _ _ ha) T.k_Text (T.no_Text _ (by decide)) (by decide) fun H4 e4 => k H4 (((e1.trans e2).trans e3).trans e4)
  · obtain ⟨ds, hd, hb⟩ := F.binds1 (ps := ["self", "rows"]) 2 1 (by intro h; cases h) rfl fun TT kV doc pm an cdv ct us its l1 l2 => by
      match us, l1 with
      | [_, _], _ =>
        match its, l2 with
        | [_], _ => exact ⟨_, rfl, by with_unfolding_all rfl⟩
    cases hd
    exact hb
/-- Text(rows) -/
theorem make_Text {σ : L2.St} {H : Hp} {te : TE} {R : V → Hp → Prop} (h : EvR te σ H fun v H1 => ∃ b rows, v = .ref b ∧ Ex H H1 ∧ RowsAt K H1 rows b ∧ standM rows = true ∧ rows.length ≤ 80 ∧ ∀ a H2, Ex H1 H2 → TextAt K H2 rows a → R (.ref a) H2) : EvR (tMake (He.ga K "Text") (sp_Text_init K) [] E0 (tCons te tNil)) σ H R := fun Q q =>
  h _ fun v H1 r => by
    obtain ⟨b, rows, rfl, e1, hr, hst, hl, k⟩ := r
    intro x dx hx hdx hne
    have e2 : Ex H1 (upd (upd H1 dx (.own x)) x (.ins (He.ga K "Text") dx [])) := fun c o hc => by
      rw [upd_ne (fun e => by subst e; rw [hx] at hc; cases hc), upd_ne (fun e => by subst e; rw [hdx] at hc; cases hc)]
      exact hc
    refine ⟨x, b, dx, rows, rfl, upd_same, hr.mono e2, hst, hl, fun H' e3 => ⟨rfl, q _ _ (k x _ ((e2.trans e3).mut hx) ⟨dx, b, upd_same, (hr.mono ?_)⟩)⟩⟩
    exact (e2.trans e3).mut hx
end
end Pk
set_option Elab.async false
set_option linter.all false
set_option maxRecDepth 100000
set_option maxHeartbeats 4000000
namespace Pk
open PySem PySem.Spec PyProof.Rows L2 Evl
def keptL (zs : List Str) : List (List Str) := (zs.map wordsIn).filter keep
theorem gd_word {z x : Str} (h : Gd z) (hx : x ∈ wordsIn z) : Gd x := by
  refine ⟨?_, ?_⟩
  · have h1 := wt_mem hx
    have h2 := words_wt z
    have := h.1
    omega
  · have h1 := h.2
    unfold PySem.PyData.strOk at h1 ⊢
    rw [Array.all_eq_true'] at h1 ⊢
    intro c hc
    exact h1 c (Array.mem_toList_iff.mp (words_in hx (Array.mem_toList_iff.mpr hc)))
theorem words_le {z : Str} (h : Gd z) : (wordsIn z).length ≤ 1000000 := by
  have key : ∀ l : List Str, (∀ x ∈ l, x.length ≠ 0) → 2 * l.length ≤ wt l := by
    intro l
    induction l with
    | nil => intro _; exact Nat.zero_le _
    | cons a l ih =>
      intro h
      have h1 := ih fun x hx => h x (List.mem_cons_of_mem _ hx)
      have h2 := h a (List.mem_cons_self ..)
      rw [wt_cons]
      simp only [List.length_cons]
      omega
  have h1 := key (wordsIn z) fun x hx => words_ne hx
  have h2 := words_wt z
  have := h.1
  omega
theorem keptL_cons (z : Str) (zs : List Str) : keptL (z :: zs) = if keep (wordsIn z) then wordsIn z :: keptL zs else keptL zs := by
  unfold keptL
  rw [List.map_cons, List.filter_cons]
theorem RowAt.map {K : PySem.W.Frag} {H H' : Hp} {r : Row} {a : Addr} (f : ∀ p xs, SqT K H p xs → SqT K H' p xs) (h : RowAt K H r a) : RowAt K H' r a := by
  obtain ⟨vs, h1, h2⟩ := h
  refine ⟨vs, f _ _ h1, Paired.mono (fun p v h => ?_) h2⟩
  cases h with
  | z => exact .z
  | n i => exact .n i
  | s h => exact .s h
  | t h hx hl => exact .t (f _ _ h) hx hl
section
variable {P : Program} {w : World} {K : PySem.W.Frag} {mg : Str → Option Value} {base : Heap}
theorem ShAt.upd_lst {H : Hp} {s : Sh} {a dr dc L : Addr} {ys : List V} {o : HO} (S : ShAt P w K H s a dr dc) (hL : H L = some (.lst ys)) : ShAt P w K (upd H L o) s a dr dc := by
  obtain ⟨dx, h1⟩ := S.at_
  have h3 := S.co
  obtain ⟨x, h2, _⟩ := S.ru
  have n1 : a ≠ L := fun e => by subst e; rw [h1] at hL; cases hL
  have n2 : dr ≠ L := fun e => by subst e; rw [h2] at hL; cases hL
  have n3 : dc ≠ L := fun e => by subst e; rw [h3] at hL; cases hL
  exact ⟨⟨dx, by rw [upd_ne n1]; exact h1⟩, S.ru.mono (fun o h => by rw [upd_ne n2]; exact h) (fun p xs h => sqt_upd h hL), by rw [upd_ne n3]; exact h3⟩
theorem readGo_cons {s : Sh} {acc : List Row} {ws : List Str} {r : List (List Str)} : readGo s acc (ws :: r) = (match rowIn ws with
    | none => none
    | some row => (match takesM s row with
      | none => none
      | some s' => if acc.length = 80 then none else readGo s' (acc ++ [row]) r)) := rfl
theorem readM_of {kws : List (List Str)} : readM kws = (match readGo sh0 [] kws with
  | none => none
  | some (s, rows) => if openM s then none else some rows) := rfl
-- slots: 0 lines, 1 shape, 2 rows, 3 number, 4 line, 5 words, 6 row
theorem SC_rows_in : FnScope ["lines", "shape", "rows", "number", "line", "words", "row"] ["lines"] (defScope (top 61)) := ⟨rfl, rfl, rfl, by decide +kernel, rfl, by decide +kernel, by decide +kernel⟩
def sp_rows_in (K : PySem.W.Frag) : Sp := fun vs H Q E => ∃ (l : Addr) (zs : List Str), vs = [.ref l] ∧ SqL K H l (zs.map .str) ∧ (∀ z ∈ zs, Gd z) ∧ zs.length ≤ 1000001 ∧
  (∀ rows b H', readM (keptL zs) = some rows → Ex H H' → RowsAt K H' rows b → Q (.ref b) H') ∧ (readM (keptL zs) = none → ∀ d H', Ex H H' → E (.ref (He.ga K "NoText")) (some d) H')
theorem cl_rows_in (T : Txt w K mg) : Cl P w K mg base (L2.CX P w) 10 "rows_in" (sp_rows_in K) := by
  obtain ⟨fd, F, hm⟩ := T.df 26 "rows_in" 61 rfl
  refine cl_of F hm SC_rows_in (fun vs H Q E h => by obtain ⟨l, zs, rfl, _⟩ := h; rfl) (fun _ _ _ _ _ _ us hl => match us, hl with | [_], _ => rfl) fun cdv A outer s H vs Q E hr h => ?_
  obtain ⟨l, zs, rfl, hq, hg, hl, k1, k2⟩ := h
  refine ⟨_, (pss_cons (ps_par (i := 1) (j := 2) rfl SC_rows_in.nd rfl rfl (by decide) rfl rfl (pa_cons (pmk0 (mk_Shape T) hr (by decide) rfl) (pa_cons (pe_lst pa_nil) pa_nil)) (by rfl))
      (pss_cons (ps_for (passes_of rfl) rfl (pi_enum rfl T.f_enumerate (pa_cons (pv 0) pa_nil)) (pg_tup (n := 2) rfl (pgs_cons (pg_name (i := 3) SC_rows_in.nd rfl (Or.inl rfl)) (pgs_cons (pg_name (i := 4) SC_rows_in.nd rfl (Or.inl rfl)) pgs_nil)))
        (pss_cons (ps_set (i := 5) SC_rows_in.nd rfl (Or.inl rfl) (pc (cl_words_in T) hr (by decide) rfl (pa_cons (pv 4) pa_nil)))
        (pss_cons (ps_if (PW.pt (pw_or (pt_cmpR (op_eqD hr.units) (pv 5) (pe_tup pa_nil) (nomark _)) (pw_or1 (pt_cmpR op_eq (pe_ix ix_tup (pv 5) pe_int (fun _ _ => rfl)) (C8.pe_gc rfl T.g_PASSED) (nomark _))))) (pss_one ps_continue) pss_nil)
        (pss_cons (ps_set (i := 6) SC_rows_in.nd rfl (Or.inl rfl) (pc (cl_row_in T) hr (by decide) rfl (pa_cons (pv 5) pa_nil)))
        (pss_cons (ps_if (PW.pt (pw_or (pt_cmpR op_isN (pv 6) pe_non (nomark _)) (pw_or (pt_not (pt_val (pm (me_takes T) hr (by decide) (pv 1) (pa_cons (pv 6) pa_nil)))) (pw_or1 (pt_cmpR op_eq (pe_callB call_len_seq rfl T.f_len boot_len (pa_cons (pv 2) pa_nil)) (C8.pe_gc rfl T.g_MOST_ROWS) (nomark _)))))) (pss_one (ps_raise rfl (takes_of rfl rfl rfl rfl) (pmk_NoText T hr (by decide) rfl (pa_cons (pv 3) pa_nil)))) pss_nil)
        (pss_one (ps_expr (pe_bm PySem.F.plainAttrs_list PySem.F.slot_list_append PySem.F.type_list_append mt_append (pv 2) (pa_cons (pv 6) pa_nil)))))))))
      (pss_cons (ps_if (pt_val (pm0 (me_is_open T) hr (by decide) (pv 1))) (pss_one (ps_raise rfl (takes_of rfl rfl rfl rfl) (pmk_NoText T hr (by decide) rfl (pa_cons (pe_callB call_len_seq rfl T.f_len boot_len (pa_cons (pv 0) pa_nil)) pa_nil)))) pss_nil)
      (pss_one (ps_ret (pe_callTy call_tuple_of rfl T.f_tuple boot_tuple (pa_cons (pv 2) pa_nil))))))), ?_⟩
  refine q_parR make_Shape (fun v H1 hv => lst0_R.imp (S := fun v' H' => ∃ sa dr dc L, v = .ref sa ∧ v' = .ref L ∧ H sa = none ∧ H dr = none ∧ H dc = none ∧ Ex H H' ∧ ShAt P w K H' sh0 sa dr dc ∧ H L = none ∧ H' L = some (.lst [])) fun v' H' hv' => ?_) (fun v v' H1 hv => ?_)
  · obtain ⟨sa, dr, dc, rfl, fa, fr, fc, e1, S1⟩ := hv
    obtain ⟨L, rfl, hL, rfl⟩ := hv'
    exact ⟨sa, dr, dc, L, rfl, rfl, fa, fr, fc, e1.trans (Ex.new hL), S1.ex (Ex.new hL), none_back e1 hL, upd_same⟩
  obtain ⟨sa, dr, dc, L, rfl, rfl, fa, fr, fc, e1, S1, fL, hL⟩ := hv
  have noRow : ∀ {rows}, RowAt K H rows l → True := fun _ => trivial
  refine q_forW walk_enum (hwi_enum (ev_var rfl) (ex_l e1 hq)) (fun i σ' H' => Ex H H' ∧ ∃ (s : Sh) (dc' : Addr) (acc : List Row) (as : List Addr) (x3 x4 x5 x6 : Option V), σ' = [some (.ref l), some (.ref sa), some (.ref L), x3, x4, x5, x6] ∧ ShAt P w K H' s sa dr dc' ∧ H dc' = none ∧ ShOk acc.length s ∧ H' L = some (.lst (as.map .ref)) ∧ Paired (fun r a => RowAt K H' r a) acc as ∧ acc.length ≤ 80 ∧ readGo sh0 [] (keptL zs) = readGo s acc (keptL (zs.drop i)))
    (fun H2 e2 => ⟨e1.trans e2, sh0, dc, [], [], none, none, none, none, rfl, S1.ex e2, fc, shOk_0, e2 _ _ hL, .nil, by decide, rfl⟩) (fun i σ' H' _ p => ex_l p.1 hq) (fun i v σ' H2 H3 hi p hy => ?_) (fun σ' H' p => ?_)
  · obtain ⟨e2, s, dc', acc, as, x3, x4, x5, x6, rfl, S2, fc2, ok2, hL2, hp2, ha80, inv⟩ := p
    refine y_pair hy fun x y hx1 hy1 e3 => ?_
    injection hx1 with hx1
    subst hx1
    obtain ⟨z, hz, rfl⟩ := map_at hy1
    have hgz := hg z (List.mem_of_getElem? hz)
    rw [drop_at hz, keptL_cons] at inv
    have E3 := e2.trans e3
    refine q_asgS (es_call (xs := (wordsIn z).map .str) (ea1 (ev_var (v := .str z) rfl)) fun H4 e4 Q k => ⟨z, rfl, hgz.1, k⟩) fun wp H4 e4 hwp => ?_
    have E4 := E3.trans e4
    have hwg : ∀ x ∈ wordsIn z, Gd x := fun x hx => gd_word hgz hx
    have hwl := words_le hgz
    obtain ⟨hs1, hs2⟩ := sh_strs (wordsIn z) fun c hc => (hwg c hc).2
    have hsh : SeqAt.shaped (.tuple ((wordsIn z).map PyData.str)) = true := by
      unfold SeqAt.shaped
      simp only [PyData.canLay0, hs1, PyData.depth, hs2]
      rfl
    have S4 := S2.ex (e3.trans e4)
    have hL4 := (e3.trans e4) _ _ hL2
    have hp4 : Paired (fun r a => RowAt K H4 r a) acc as := Paired.mono (fun r a h => h.mono (e3.trans e4)) hp2
    have same : ∀ {H5}, Ex H4 H5 → ∀ x3 x4 x5 x6, readGo sh0 [] (keptL zs) = readGo s acc (keptL (zs.drop (i + 1))) → Ex H H5 ∧ ∃ (s : Sh) (dc' : Addr) (acc : List Row) (as : List Addr) (y3 y4 y5 y6 : Option V), [some (V.ref l), some (.ref sa), some (.ref L), x3, x4, x5, x6] = [some (.ref l), some (.ref sa), some (.ref L), y3, y4, y5, y6] ∧ ShAt P w K H5 s sa dr dc' ∧ H dc' = none ∧ ShOk acc.length s ∧ H5 L = some (.lst (as.map .ref)) ∧ Paired (fun r a => RowAt K H5 r a) acc as ∧ acc.length ≤ 80 ∧ readGo sh0 [] (keptL zs) = readGo s acc (keptL (zs.drop (i + 1))) := fun e5 x3 x4 x5 x6 h =>
      ⟨E4.trans e5, s, dc', acc, as, x3, x4, x5, x6, rfl, S4.ex e5, fc2, ok2, e5 _ _ hL4, Paired.mono (fun r a h => h.mono e5) hp4, ha80, h⟩
    cases hW : wordsIn z with
    | nil =>
      rw [hW] at inv hwp hsh
      refine q_when (b := true) (et_or1 (et_is (et_test (ev_eq0 (ds := ([] : List Str).map PyData.str) (ev_var rfl) (.tup hwp (dp_strs _)) hsh)) rfl)) (fun _ H5 e5 => same e5 _ _ _ _ inv) (fun h => by cases h)
    | cons w0 rest =>
      rw [hW] at inv hwp hsh hwg hwl
      by_cases hdots : w0 = dots
      · have hk : keep (w0 :: rest) = false := by
          show (!decide (w0 = dots)) = false
          rw [decide_eq_true hdots]; rfl
        rw [hk] at inv
        refine q_when (b := true) (et_is (et_or (et_test (ev_eq0 (ds := (w0 :: rest).map PyData.str) (ev_var rfl) (.tup hwp (dp_strs _)) hsh)) fun _ => et_test (ev_op (ev_op (ev_var rfl) ev_c (rv_ixT hwp atI_0)) ev_c (rv_eq rfl))) ?_) (fun _ H5 e5 => same e5 _ _ _ _ inv) (fun h => by cases h)
        rw [hdots]; rfl
      have hk : keep (w0 :: rest) = true := by
        show (!decide (w0 = dots)) = true
        rw [decide_eq_false hdots]; rfl
      rw [hk, if_pos rfl, readGo_cons] at inv
      refine q_when (b := false) (et_is (et_or (et_test (ev_eq0 (ds := (w0 :: rest).map PyData.str) (ev_var rfl) (.tup hwp (dp_strs _)) hsh)) fun _ => et_test (ev_op (ev_op (ev_var rfl) ev_c (rv_ixT hwp atI_0)) ev_c (rv_eq rfl))) ?_) (fun h => by cases h) (fun _ H5 e5 => ?_)
      · have : decide (V.str w0 = V.str dots) = false := decide_eq_false fun e => hdots (V.str.inj e)
        rw [this]; rfl
      refine q_asgR (R := fun v H' => Ex H5 H' ∧ ansRow K (rowIn (w0 :: rest)) v H') (fun Q q => ⟨.ref wp, rfl, wp, w0, rest, rfl, ex_t e5 hwp, hwg, by simp only [List.length_cons] at hwl; omega, fun v H6 e6 ha => q v H6 ⟨e6, ha⟩⟩) fun v H6 r6 => ?_
      obtain ⟨e6, hans⟩ := r6
      have E6 := (E4.trans e5).trans e6
      have S6 := S4.ex (e5.trans e6)
      have hL6 := (e5.trans e6) _ _ hL4
      have hp6 : Paired (fun r a => RowAt K H6 r a) acc as := Paired.mono (fun r a h => h.mono (e5.trans e6)) hp4
      refine q_whenR (R := fun b H' => if b = true then (readM (keptL zs) = none ∧ Ex H H') else ∃ (r : Row) (rb : Addr) (s' : Sh) (dc2 : Addr), v = .ref rb ∧ Ex H H' ∧ RowAt K H' r rb ∧ ShAt P w K H' s' sa dr dc2 ∧ H dc2 = none ∧ ShOk (acc.length + 1) s' ∧ H' L = some (.lst (as.map .ref)) ∧ Paired (fun r a => RowAt K H' r a) acc as ∧ acc.length < 80 ∧ readGo sh0 [] (keptL zs) = readGo s' (acc ++ [r]) (keptL (zs.drop (i + 1)))) ?_ (fun H7 r7 => ?_) (fun H7 r7 => ?_)
      · cases hri : rowIn (w0 :: rest) with
        | none =>
          rw [hri] at hans inv
          have hv : v = .non := hans
          subst hv
          refine or_R (b := true) (et_test (ev_op (ev_var rfl) ev_c rv_is)) (fun _ H7 e7 => ?_) (fun h => by cases h)
          rw [if_pos rfl]
          refine ⟨?_, E6.trans e7⟩
          rw [readM_of, inv]
        | some r =>
          rw [hri] at hans inv
          obtain ⟨rb, rfl, hrow⟩ := hans
          have hrm : rowM r = true := (rowIn_ok hri).2.1
          refine or_R (b := false) (et_test (ev_op (ev_var rfl) ev_c rv_is)) (fun h => by cases h) (fun _ H7 e7 => ?_)
          have S7 := S6.ex e7
          obtain ⟨dx, hat⟩ := S7.at_
          refine orR_R (S := fun b H' => if b = true then (takesM s r = none ∧ Ex H H') else ∃ (s' : Sh) (dc2 : Addr), takesM s r = some s' ∧ Ex H H' ∧ RowAt K H' r rb ∧ ShAt P w K H' s' sa dr dc2 ∧ H dc2 = none ∧ H' L = some (.lst (as.map .ref)) ∧ Paired (fun r a => RowAt K H' r a) acc as) (not_R (tB_R fun Q q => ?_)) (fun H8 h8 => ?_) (fun H8 h8 => ?_)
          · refine t_meth1 hat (ev_var rfl) (show (shFs s dr dc').lookup ("takes" : Str) = none from rfl) (ev_var rfl) fun H8 e8 => ?_
            have S8 := S7.ex e8
            have E8 := (E6.trans e7).trans e8
            refine ⟨sa, rb, dr, dc', s, r, acc.length, rfl, S8, hrow.mono (e7.trans e8), hrm, ok2, by omega, ?_, ?_⟩
            · intro s' dc2 H9 hs' M9 S9 hd
              refine q _ _ ⟨true, rfl, ?_⟩
              show (if false = true then _ else _)
              rw [if_neg Bool.false_ne_true]
              have hL8 := (e7.trans e8) _ _ hL6
              refine ⟨s', dc2, hs', mv_ex E8 fa fr fc2 M9, (hrow.mono (e7.trans e8)).map (fun p xs h => M9.sqt S8 h), S9, hd.elim (fun e => by rw [e]; exact fc2) fun h => none_back E8 h, ?_, Paired.mono (fun r a h => (h.mono (e7.trans e8)).map (fun p xs h => M9.sqt S8 h)) hp6⟩
              obtain ⟨dx8, hat8⟩ := S8.at_
              obtain ⟨x8, hx8, _⟩ := S8.ru
              have hco8 := S8.co
              exact M9 L _ (fun e => by subst e; rw [hat8] at hL8; cases hL8) (fun e => by subst e; rw [hx8] at hL8; cases hL8) (fun e => by subst e; rw [hco8] at hL8; cases hL8) hL8
            · intro hs' H9 M9
              refine q _ _ ⟨false, rfl, ?_⟩
              show (if true = true then _ else _)
              rw [if_pos rfl]
              exact ⟨hs', mv_ex E8 fa fr fc2 M9⟩
          · rw [if_pos rfl] at h8 ⊢
            refine ⟨?_, h8.2⟩
            rw [readM_of, inv]
            simp only [h8.1]
          · rw [if_neg Bool.false_ne_true] at h8
            obtain ⟨s', dc2, ht, E8, hrow8, S8, f8, hL8, hp8⟩ := h8
            simp only [ht] at inv
            refine EtR.imp (et_R (b := decide (acc.length = 80)) (et_is (et_test (ev_op (ev_cb (ea1 (ev_var rfl)) (rc_lenL (sq_of hL8))) ev_c (rv_eq rfl))) ?_)) fun b H9 h9 => ?_
            · have hal : as.length = acc.length := (Paired.length hp8).symm
              rw [List.length_map, hal]
              exact decide_eq_decide.mpr ⟨fun h => by have := V.int.inj h; omega, fun h => by rw [h]; rfl⟩
            · obtain ⟨rfl, e9⟩ := h9
              by_cases h80 : acc.length = 80
              · rw [decide_eq_true h80, if_pos rfl]
                rw [if_pos h80] at inv
                exact ⟨by rw [readM_of, inv], E8.trans e9⟩
              · rw [decide_eq_false h80, if_neg Bool.false_ne_true]
                rw [if_neg h80] at inv
                exact ⟨r, rb, s', dc2, rfl, E8.trans e9, hrow8.mono e9, S8.ex e9, f8, takes_ok ok2 hrm ht, e9 _ _ hL8, Paired.mono (fun r a h => h.mono e9) hp8, by omega, inv⟩
      · rw [if_pos rfl] at r7
        exact mkO_NoText (ev_var (v := .int (i : Nat)) rfl) fun d H8 e8 => k2 r7.1 d H8 (r7.2.trans e8)
      · rw [if_neg Bool.false_ne_true] at r7
        obtain ⟨r, rb, s', dc2, rfl, E7, hrow7, S7, f7, ok7, hL7, hp7, h80, inv7⟩ := r7
        refine s_appV hL7 (ev_var rfl) (ev_var rfl) ?_ fun H8 e8 => ?_
        · have hal : as.length = acc.length := (Paired.length hp7).symm
          rw [List.length_map, hal]
          exact Nat.lt_of_lt_of_le h80 (by decide)
        · have hL8 := e8 _ _ hL7
          have sq : ∀ p xs, SqT K H8 p xs → SqT K (upd H8 L (.lst (as.map .ref ++ [.ref rb]))) p xs := fun p xs h => sqt_upd h hL8
          refine ⟨(E7.trans e8).mut fL, s', dc2, acc ++ [r], as ++ [rb], _, _, _, _, rfl, (S7.ex e8).upd_lst hL8, f7, ?_, by rw [upd_same, List.map_append]; rfl, Paired.snoc (Paired.mono (fun r a h => (h.mono e8).map sq) hp7) ((hrow7.mono e8).map sq), ?_, inv7⟩
          · rw [List.length_append, List.length_singleton]; exact ok7
          · rw [List.length_append, List.length_singleton]; omega
  · obtain ⟨e2, s, dc', acc, as, x3, x4, x5, x6, rfl, S2, fc2, ok2, hL2, hp2, ha80, inv⟩ := p
    have hlen : (zs.map V.str).length = zs.length := List.length_map ..
    rw [hlen, List.drop_length] at inv
    have inv2 : readGo sh0 [] (keptL zs) = some (s, acc) := inv
    obtain ⟨dx, hat⟩ := S2.at_
    refine q_when (et_B (b := openM s) fun H3 e3 Q q => t_meth0 (e3 _ _ hat) (ev_var rfl) (show (shFs s dr dc').lookup ("is_open" : Str) = none from rfl) fun H4 e4 => ⟨sa, dr, dc', s, rfl, S2.ex (e3.trans e4), fun H5 e5 => q H5 (Ex.trans e4 e5)⟩) (fun h H3 e3 => ?_) (fun h H3 e3 => ?_)
    · have hnone : readM (keptL zs) = none := by
        rw [readM_of, inv2]
        simp only [h, if_true]
      exact mkO_NoText (ev_cb (ea1 (ev_var rfl)) (rc_lenL (ex_l (e2.trans e3) hq))) fun d H4 e4 => k2 hnone d H4 ((e2.trans e3).trans e4)
    · have hsome : readM (keptL zs) = some acc := by
        rw [readM_of, inv2]
        simp only [h, Bool.false_eq_true, if_false]
      exact s_retS (es_tupL (ev_var rfl) (sq_of (e3 _ _ hL2))) fun p H4 e4 hp4 => k1 acc p H4 hsome ((e2.trans e3).trans e4) ⟨as, hp4, Paired.mono (fun r a h => h.mono (e3.trans e4)) hp2⟩
end
end Pk
set_option Elab.async false
set_option linter.all false
set_option maxRecDepth 100000
set_option maxHeartbeats 4000000
/-! str(x), x == y, x != y of instances with the text's own methods. -/
namespace Pk
open PySem PySem.Spec PyProof.Rows L2 Evl
open Sem (wp)
section
variable {prog : Program} {w : World} {A : Around} {E : Value → Shared → Prop} {s : Shared} {K : PySem.W.Frag} {x C : Addr} {ox : Obj} {od : Option Obj} {b tb : Value}
theorem cmp_one {op : CmpOp} {Q : Value → Shared → Prop} (hu : A.units < cLine) (X : K.In s.heap) (I : PySem.W.InstAt s.heap x ox C od) (hb : PySem.W.Looks (model prog w) s.heap (typeOf b) tb) (hn : PySem.W.notFirst K C tb = true)
    (one : wpAny (model prog w) A (tryCompare (.ref x) (cmpInfo op).2.1 b) (fun r s' => ∃ v, r = some v ∧ Q v s') E s) : wpAny (model prog w) A (richCompare op (.ref x) b) Q E s := by
  unfold richCompare
  simp only [oneThing_ref]
  refine wpAny_holding (wpAny_bind (wpAny_cRoomFor hu ?_))
  refine wpAny_bind (I.type.here (wpAny_bind (hb.here ?_)))
  split
  · rename_i q
    have e : PySem.W.subIn K tb (.ref C) = some false := by
      rcases Bool.or_eq_true_iff.mp hn with e | e
      · rw [beq_iff_eq.mp e] at q; simp at q
      · exact beq_iff_eq.mp e
    refine wpAny_bind ((PySem.W.looks_subIn X e).here ?_)
    simp only [Bool.false_eq_true, if_false]
    refine wpAny_bind (wpAny_mono one (fun r s' z => ?_) fun _ _ e => e)
    obtain ⟨v, rfl, hq⟩ := z
    exact wpAny_pure hq
  · refine wpAny_bind (wpAny_pure ?_)
    simp only [Bool.false_eq_true, if_false]
    refine wpAny_bind (wpAny_mono one (fun r s' z => ?_) fun _ _ e => e)
    obtain ⟨v, rfl, hq⟩ := z
    exact wpAny_pure hq
theorem ifBound_slot {M : Model} {name : Str} {id : String} {args : List Value} {Q : Option Value → Shared → Prop} (X : K.In s.heap) (I : PySem.W.InstAt s.heap x ox C od) (hs : PySem.W.findIn K (.ref C) name = some (some (.builtin id))) (S : Slot "object" name id)
    (hcall : wpAny M A (call (.builtin id) (.ref x :: args)) (fun v => Q (some v)) E s) : wpAny M A (callSpecialIfBound? (.ref x) name args) Q E s := by
  simp only [callSpecialIfBound?, bindSpecialIfBound?]
  refine wpAny_holding (wpAny_bind (wpAny_bind (wpAny_bind (I.type.here ((PySem.W.looks_findIn X hs).here ?_)))))
  simp only [S.bind]
  refine wpAny_bind (wpAny_askSetting (wpAny_ite ?_))
  have fin : wpAny M A (call (.builtin id) ([.ref x] ++ args) >>= fun v => pure (some v)) Q E s :=
    wpAny_bind (wpAny_mono hcall (fun v s' h' => wpAny_pure h') fun _ _ h' => h')
  split
  · exact wpAny_bind (wpAny_pure (wpAny_pure fin))
  · exact wpAny_tryCatch (wpAny_bind (wpAny_pure (wpAny_pure fin)))
theorem ne_own {f : Addr} {Q : Value → Shared → Prop} (hu : A.in1.units < cLine) (X : K.In s.heap) (I : PySem.W.InstAt s.heap x ox C od) (hb : PySem.W.Looks (model prog w) s.heap (typeOf b) tb) (hn : PySem.W.notFirst K C tb = true)
    (hne : PySem.W.findIn K (.ref C) "__ne__" = some (some (.builtin "object.__ne__"))) (hob : PySem.W.subIn K (.ref C) (.type "object") = some true) (hs : PySem.W.findIn K (.ref C) "__eq__" = some (some (.ref f))) (hf : PySem.W.isFn K (.ref f) = true)
    (h : wpAny (model prog w) A.in1 (call (.ref f) [.ref x, b]) (fun v s' => ∃ c, v = .bool c ∧ Q (.bool (!c)) s') E s) : wpAny (model prog w) A (richCompare .NotEq (.ref x) b) Q E s := by
  refine cmp_one (Nat.lt_of_succ_lt hu) X I hb hn ?_
  unfold tryCompare
  refine wpAny_bind (ifBound_slot X I hne F.cmp_object.ne ?_)
  have isI : PySem.W.Looks (model prog w) s.heap (isInstance (.ref x) (.type "object")) true := I.type.andThen (PySem.W.looks_subIn X hob)
  refine wpAny_call (codeAny_call_builtin F.cmp_object.ne.plain F.cmpEntry_ne (PySem.W.check_slot F.cmpKind_ne F.cmpSplit_ne isI (F.cmpArgs_ne _ _) ?_))
  show wpAny _ _ (pure (Value.ref x, [b]) >>= _) _ _ s
  refine wpAny_bind (wpAny_pure ?_)
  show wpAny _ _ (cRoomFor "comparison" [.ref x, b] >>= _) _ _ s
  refine wpAny_bind (wpAny_cRoomFor hu ?_)
  refine wpAny_bind (PySem.W.ifBound_K X I hs hf (wpAny_mono h (fun v s' hv => ?_) fun _ _ e => e))
  obtain ⟨c, rfl, q⟩ := hv
  show wpAny _ _ (do let t ← truthy (.bool c); ret (.bool (!t))) _ _ s'
  refine wpAny_bind (wpAny_truthy_bool ?_)
  exact wpAny_pure (wpAny_pure ⟨_, rfl, q⟩)
end
section
variable {X : Cx} {pins : List (Addr × Obj)} {σ : L2.St} {H : Hp} {s : Shared}
/-- a method's call from below the body -/
theorem own_run {A : Around} {k : Nat} {f : Addr} {fd : FuncData} {ps : List Str} {sp : Sp} {vs : List V} {us : List Value} {Q : VK} (F : FnOk X.prog X.w X.K X.mg X.base CX0 k f fd ps sp) (hb : Binds X.K fd ps []) (hr : Room k A) (hf : A.frames = X.A.frames) (I : Inv X pins σ H s) (r : Vals vs us) (h : sp vs H Q E0) :
    wpAny (model X.prog X.w) A (call (.ref f) us) (EP X pins σ Q) X.xe s := by
  have e0 : Env0 X.prog X.w X.K X.mg X.base A X.stack s H := by
    have e := I.env0
    exact ⟨by rw [hf]; exact e.frames, e.mod, e.bs, e.bsz, e.funs, e.frf, e.hok, e.bare⟩
  have hl := F.len _ _ _ _ h
  have hl2 : us.length = ps.length := r.length.symm.trans hl
  refine wpAny_call (codeAny_mono (F.run A X.stack s H ⟨us, []⟩ us vs Q E0 hr e0 (by
    have := hb s us I.kIn (by rw [List.append_nil]; exact hl2)
    rw [List.append_nil] at this
    exact this) r h) fun rr s' hq => ?_)
  cases rr with
  | error e => exact hq.elim
  | ok fl =>
    cases fl with
    | ret u => exact I.after hq
    | next => exact False.elim hq
    | brk => exact False.elim hq
    | cont => exact False.elim hq
/-- str(x) -/
theorem call_strOwn {k j : Nat} {C : Addr} {sp : Sp} (c : Me X.prog X.w X.K X.mg X.base CX0 k C "__str__" sp) (hr : Room j X.A) (hk : k + 2 ≤ j) : CallR X (.type "str") (fun xs H Q => ∃ a dx fs, xs = [.ref a] ∧ H a = some (.ins C dx fs) ∧ sp [.ref a] H (fun v H' => (∃ z, v = .str z) ∧ Q v H') E0) := by
  intro pins s σ H xs us Q I r h
  obtain ⟨a, dx, fs, rfl, ha, hsp⟩ := h
  obtain ⟨u, rfl, ru⟩ := vals1 r
  cases ru
  obtain ⟨f, fd, ps, hc, hm, F, b⟩ := c.ex
  obtain ⟨mA, J, _⟩ := ins_get I.hok ha
  obtain ⟨od, J, _⟩ := J.look
  have hr2 : Room (k + 2) X.A := hr.mono hk
  refine PySem.W.kso_call (show X.A.in1.in1.units < cLine from by have := hr2.un; show X.A.units + 1 + 1 < _; omega) I.kIn J hm.at_ hm.fn ?_
  refine wpAny_mono (own_run F b hr2.in1.in1 rfl I (vs := [.ref a]) (us := [.ref a]) (.cons rfl .nil) hsp) (fun v s' hv => ?_) fun _ _ e => e
  obtain ⟨v', H', I', rv, ⟨z, rfl⟩, q⟩ := hv
  obtain ⟨t, rfl⟩ := rv
  exact ⟨.str z, H', I', ⟨t, rfl⟩, q⟩
/-- x == y, x != y -/
theorem op_eqOwn {k j : Nat} {C : Addr} {sp : Sp} (c : Me X.prog X.w X.K X.mg X.base CX0 k C "__eq__" sp) (hr : Room j X.A) (hk : k ≤ j) : OpR X (compareOp .Eq) (fun x y H Q => ∃ a b dx dy fs gs, x = .ref a ∧ y = .ref b ∧ H a = some (.ins C dx fs) ∧ H b = some (.ins C dy gs) ∧ sp [.ref a, .ref b] H (fun v H' => (∃ c, v = .bl c) ∧ Q v H') E0) := by
  intro pins s σ H x y v u Q I rx ry h
  obtain ⟨a, b, dx, dy, fs, gs, rfl, rfl, ha, hb', hsp⟩ := h
  cases rx
  cases ry
  obtain ⟨f, fd, ps, hc, hm, F, bd⟩ := c.ex
  obtain ⟨mA, J, _⟩ := ins_get I.hok ha
  obtain ⟨mB, J', _⟩ := ins_get I.hok hb'
  obtain ⟨od, J, _⟩ := J.look
  obtain ⟨od', J', _⟩ := J'.look
  have hr2 : Room k X.A := hr.mono hk
  show wpAny (model X.prog X.w) X.A (richCompare .Eq (.ref a) (.ref b)) _ _ s
  obtain ⟨m, hF⟩ := I.fr
  refine PySem.W.cmp_K (op := .Eq) (tb := .ref C) hr2.units0 hF I.ok.mod.kin J J'.type (by simp [PySem.W.notFirst]) hm.at_ hm.fn ?_
  refine wpAny_mono (own_run F bd hr2 rfl I (vs := [.ref a, .ref b]) (us := [.ref a, .ref b]) (.cons rfl (.cons rfl .nil)) hsp) (fun v s' hv => ?_) fun _ _ e => e
  obtain ⟨v', H', I', rv, ⟨z, rfl⟩, q⟩ := hv
  cases rv
  exact ⟨.bl z, H', I', rfl, q⟩
theorem op_neOwn {k j : Nat} {C : Addr} {sp : Sp} (c : Me X.prog X.w X.K X.mg X.base CX0 k C "__eq__" sp) (hne : PySem.W.findIn X.K (.ref C) "__ne__" = some (some (.builtin "object.__ne__"))) (hob : PySem.W.subIn X.K (.ref C) (.type "object") = some true) (hr : Room j X.A) (hk : k + 1 ≤ j) :
    OpR X (compareOp .NotEq) (fun x y H Q => ∃ a b dx dy fs gs, x = .ref a ∧ y = .ref b ∧ H a = some (.ins C dx fs) ∧ H b = some (.ins C dy gs) ∧ sp [.ref a, .ref b] H (fun v H' => ∃ c, v = .bl c ∧ Q (.bl (!c)) H') E0) := by
  intro pins s σ H x y v u Q I rx ry h
  obtain ⟨a, b, dx, dy, fs, gs, rfl, rfl, ha, hb', hsp⟩ := h
  cases rx
  cases ry
  obtain ⟨f, fd, ps, hc, hm, F, bd⟩ := c.ex
  obtain ⟨mA, J, _⟩ := ins_get I.hok ha
  obtain ⟨mB, J', _⟩ := ins_get I.hok hb'
  obtain ⟨od, J, _⟩ := J.look
  obtain ⟨od', J', _⟩ := J'.look
  have hr2 : Room (k + 1) X.A := hr.mono hk
  show wpAny (model X.prog X.w) X.A (richCompare .NotEq (.ref a) (.ref b)) _ _ s
  refine ne_own (tb := .ref C) (show X.A.in1.units < cLine from by have := hr2.un; show X.A.units + 1 < _; omega) I.kIn J J'.type (by simp [PySem.W.notFirst]) hne hob hm.at_ hm.fn ?_
  refine wpAny_mono (own_run F bd hr2.in1 rfl I (vs := [.ref a, .ref b]) (us := [.ref a, .ref b]) (.cons rfl (.cons rfl .nil)) hsp) (fun v s' hv => ?_) fun _ _ e => e
  obtain ⟨v', H', I', rv, z, rfl, q⟩ := hv
  cases rv
  exact ⟨z, rfl, .bl (!z), H', I', rfl, q⟩
end
end Pk
set_option Elab.async false
set_option linter.all false
set_option maxRecDepth 100000
set_option maxHeartbeats 4000000
namespace Pk
open PySem PySem.Spec PyProof.Rows L2 Evl
section
variable {X : Cx} {W : WX} {k j : Nat} {x : Str} {sp : Sp} {E : XK} {p pos : Pos} {e : Expr} {es : List Expr} {t : TA}
/-- a def that may raise, called by one that may raise the same -/
theorem pcX (c : Cl X.prog X.w X.K X.mg X.base (L2.CX X.prog X.w) k x sp) (tk : Takes X W) (hW : ∀ cls d σ H, E cls d H → W cls d σ H) (hr : Room j X.A) (hk : k ≤ j) (hg : Gl X x) (ha : PA X (e :: es) t)
    (hdb : (x == ("__debug__" : Str)) = false := by decide) (he : starEach (e :: es) X.env = (false, eval e X.env) :: starEach es X.env := by rfl) (hpl : (backTo pos (starEach es X.env)).any (·.1) = false := by rfl) :
    PE X (.Call (.Name x p) (e :: es) [] pos) (tCall sp [] E t) := by
  obtain ⟨f, fd, ps, F, hm, kp, b⟩ := c.ex
  exact pe_call F (hr.mono hk) hg hm kp b .nil (passes_call tk hW) ha hdb he hpl
/-- .. by one that is told it does not -/
theorem passN : Passes (L2.CX X.prog X.w) X (fun _ _ _ => False) := passes_call (W := fun _ _ _ _ => False) takes0 fun _ _ _ _ h => h
theorem pcN (c : Cl X.prog X.w X.K X.mg X.base (L2.CX X.prog X.w) k x sp) (hr : Room j X.A) (hk : k ≤ j) (hg : Gl X x) (ha : PA X (e :: es) t)
    (hdb : (x == ("__debug__" : Str)) = false := by decide) (he : starEach (e :: es) X.env = (false, eval e X.env) :: starEach es X.env := by rfl) (hpl : (backTo pos (starEach es X.env)).any (·.1) = false := by rfl) :
    PE X (.Call (.Name x p) (e :: es) [] pos) (tCall sp [] (fun _ _ _ => False) t) := by
  obtain ⟨f, fd, ps, F, hm, kp, b⟩ := c.ex
  exact pe_call F (hr.mono hk) hg hm kp b .nil passN ha hdb he hpl
end
theorem split_gd {z x : Str} (h : Gd z) (hx : x ∈ Txt.split z lf) : Gd x := by
  refine ⟨?_, ?_⟩
  · have h1 := wt_mem hx
    have h2 : wt (Txt.split z lf) = z.length + 1 := wt_split z 10
    have := h.1
    omega
  · have h1 := h.2
    unfold PySem.PyData.strOk at h1 ⊢
    rw [Array.all_eq_true'] at h1 ⊢
    intro c hc
    have h3 := join_mem lf (Txt.split z lf) x c hx (Array.mem_toList_iff.mpr hc)
    have h4 : Str.join lf (Txt.split z lf) = z := StrLaws.join_split z lf
    rw [h4] at h3
    exact h1 c (Array.mem_toList_iff.mp h3)
def drows (rows : List Row) : PyData := .tuple (rows.map drow)
theorem sh_drows : ∀ {rows : List Row}, (∀ r ∈ rows, ∀ p ∈ r, okPart p) → PyData.canLayAll0 (rows.map drow) = true ∧ PyData.depthAll (rows.map drow) ≤ 2
  | [], _ => ⟨rfl, by simp [PyData.depthAll]⟩
  | r :: rows, h => by
    obtain ⟨h1, h2⟩ := sh_drows (rows := rows) fun q hq => h q (List.mem_cons_of_mem _ hq)
    obtain ⟨h3, h4⟩ := sh_parts (h r (List.mem_cons_self ..))
    have h5 : PyData.depth (drow r) ≤ 2 := by simp only [drow, PyData.depth]; omega
    refine ⟨by simp [PyData.canLayAll0, drow, PyData.canLay0, h1, h3], ?_⟩
    simp only [List.map_cons, PyData.depthAll]
    omega
theorem sh_rows {rows : List Row} (h : ∀ r ∈ rows, ∀ p ∈ r, okPart p) : SeqAt.shaped (drows rows) = true := by
  obtain ⟨h1, h2⟩ := sh_drows h
  have h3 : PyData.depth (drows rows) ≤ 64 := by
    simp only [drows, PyData.depth]
    omega
  unfold SeqAt.shaped
  rw [decide_eq_true h3, Bool.and_true]
  simp only [drows, PyData.canLay0, h1]
theorem eqv_drows : ∀ a b : List Row, PyData.eqvAll (a.map drow) (b.map drow) = decide (a = b)
  | [], [] => by simp [PyData.eqvAll]
  | [], _ :: _ => by simp [PyData.eqvAll]
  | _ :: _, [] => by simp [PyData.eqvAll]
  | x :: xs, y :: ys => by
    simp only [List.map_cons, PyData.eqvAll, eqv_rows, eqv_drows xs ys]
    by_cases h : x = y
    · subst h; simp
    · simp [h]
section
variable {P : Program} {w : World} {K : PySem.W.Frag} {mg : Str → Option Value} {base : Heap}
theorem rows_dpA {H : Hp} : ∀ {rows : List Row} {as : List Addr}, Paired (fun r a => RowAt K H r a) rows as → DpAll K H (as.map .ref) (rows.map drow) ∧ ∀ r ∈ rows, ∀ p ∈ r, okPart p
  | _, _, .nil => ⟨.nil, fun _ h => by cases h⟩
  | _, _, .cons h t => by
    obtain ⟨h1, h2⟩ := rows_dpA t
    refine ⟨.cons h.dp h1, fun r hr => ?_⟩
    rcases List.mem_cons.mp hr with rfl | hr
    · exact h.ok
    · exact h2 r hr
theorem RowsAt.dp {H : Hp} {rows : List Row} {b : Addr} (h : RowsAt K H rows b) : Dp K H (.ref b) (drows rows) ∧ SeqAt.shaped (drows rows) = true := by
  obtain ⟨as, h1, h2⟩ := h
  obtain ⟨h3, h4⟩ := rows_dpA h2
  exact ⟨.tup h1 h3, sh_rows h4⟩
-- slots: 0 text
theorem SC_read_text : FnScope ["text"] ["text"] (defScope (top 62)) := ⟨rfl, rfl, rfl, by decide +kernel, rfl, by decide +kernel, by decide +kernel⟩
def sp_read_text (K : PySem.W.Frag) : Sp := fun vs H Q E => ∃ z : Str, vs = [.str z] ∧ Gd z ∧ (∀ rows a H', readT z = some rows → Ex H H' → TextAt K H' rows a → Q (.ref a) H') ∧ (readT z = none → ∀ d H', Ex H H' → E (.ref (He.ga K "NoText")) (some d) H')
theorem cl_read_text (T : Txt w K mg) : Cl P w K mg base (L2.CX P w) 12 "read_text" (sp_read_text K) := by
  obtain ⟨fd, F, hm⟩ := T.df 27 "read_text" 62 rfl
  refine cl_of F hm SC_read_text (fun vs H Q E h => by obtain ⟨z, rfl, _⟩ := h; rfl) (fun _ _ _ _ _ _ us hl => match us, hl with | [_], _ => rfl) fun cdv A outer s H vs Q E hr h => ?_
  obtain ⟨z, rfl, hg, k1, k2⟩ := h
  refine ⟨_, (pss_cons (ps_if (pt_not (pt_val (pe_callB call_is rfl T.f_isinstance boot_isinstance (pa_cons (pv 0) (pa_cons (pe_ty rfl T.f_str boot_str) pa_nil))))) (pss_one ps_never) pss_nil)
      (pss_one (ps_ret (pmk (mk_Text T) hr (by decide) rfl (pa_cons (pcX (cl_rows_in T) (takes_of rfl rfl rfl rfl) (fun _ _ _ _ h => h) hr (by decide) rfl (pa_cons (pc (cl_lines_in T) hr (by decide) rfl (pa_cons (pv 0) pa_nil)) pa_nil)) pa_nil))))), ?_⟩
  refine q_when (b := false) (et_not (et_B (ev_isi (ev_var rfl) (.str z) rfl))) (fun h => by cases h) (fun _ H1 e1 => ?_)
  refine s_retR (R := fun v H' => Q v H') (make_Text fun Q q => ?_) fun v H' h => h
  refine ev_callL (xs := (Txt.split z lf).map .str) (ea1 (ev_var (H := H1) (v := .str z) rfl)) (fun H2 e2 Q k => ⟨z, rfl, hg.1, k⟩) H1 (Ex.refl _) _ fun p H2 hp e2 hl => ?_
  refine ⟨p, Txt.split z lf, rfl, sq_of hl, fun x hx => split_gd hg hx, ?_, fun rows b H3 hs e3 hrows => ?_, fun hn d H3 e3 => k2 hn d H3 ((e1.trans e2).trans e3)⟩
  · have h1 := wt_len (Txt.split z lf)
    have h2 : wt (Txt.split z lf) = z.length + 1 := wt_split z 10
    have := hg.1
    omega
  · have hs2 : readT z = some rows := hs
    obtain ⟨_, h80, hst, _⟩ := readM_ok hs2
    exact q _ _ ⟨b, rows, rfl, e2.trans e3, hrows, hst, h80, fun a H4 e4 ht => k1 rows a H4 hs2 (((e1.trans e2).trans e3).trans e4) ht⟩
-- slots: 0 self, 1 other
theorem SC_Text_eq : FnScope ["self", "other"] ["self", "other"] (defScope (inClass (top 57) 2)) := ⟨rfl, rfl, rfl, by decide +kernel, rfl, by decide +kernel, by decide +kernel⟩
def sp_Text_eq (P : Program) (w : World) (K : PySem.W.Frag) : Sp := fun vs H Q _ => ∃ (a b : Addr) (ra rb : List Row), vs = [.ref a, .ref b] ∧ TextAt K H ra a ∧ TextAt K H rb b ∧ RetV (.bl (decide (ra = rb))) H Q
theorem me___eq__ (T : Txt w K mg) : Me P w K mg base CX0 1 (He.ga K "Text") "__eq__" (sp_Text_eq P w K) := by
  obtain ⟨fd, F⟩ := T.dm 64 "Text" "__eq__" "Text.__eq__" 57 2 rfl
  refine me0 F T.k_Text (T.me_Text "__eq__" (by decide)) SC_Text_eq (fun vs H Q E h => by obtain ⟨a, b, ra, rb, rfl, ta, tb, k⟩ := h; rfl) (fun _ _ _ _ _ _ us hl => match us, hl with | [_, _], _ => rfl) fun cdv A outer s H vs Q E hr h => ?_
  obtain ⟨a, b, ra, rb, rfl, ta, tb, k⟩ := h
  refine ⟨_, (pss_one (ps_ret (pe_and (pe_callB call_isi rfl T.f_isinstance boot_isinstance (pa_cons (pv 1) (pa_cons (C8.pe_gc (v := .ref (He.ga K "Text")) rfl ⟨_, T.gl_Text, rfl⟩) pa_nil))) (pe_one (pe_cmpR (op_eqD hr.units) (pe_fld (pv 0) rfl) (pe_fld (pv 1) rfl) (nomark _)))))), ?_⟩
  obtain ⟨dx, ba, hat, hra⟩ := ta
  obtain ⟨dy, bb, hbt, hrb⟩ := tb
  obtain ⟨d1, s1⟩ := hra.dp
  obtain ⟨d2, s2⟩ := hrb.dp
  refine s_ret (ev_is (ev_andV (a := true) (ev_cb (ea2 (ev_var (v := .ref b) rfl) ev_c) fun H1 e1 Q q => ⟨.ref b, .ref (He.ga K "Text"), .ref (He.ga K "Text"), .ref (He.ga K "Text"), true, rfl, .own _, .base (T.ty_Text H1 b dy _ (e1 _ _ hbt)), T.kit_Text, q H1 (Ex.refl _)⟩) fun _ => ev_op (ev_fldR hat T.k_Text (T.no_Text _ (by decide)) (show ([("rows", V.ref ba)] : List (Str × V)).lookup ("rows" : Str) = some (.ref ba) from rfl) (ev_var rfl)) (ev_fldR hbt T.k_Text (T.no_Text _ (by decide)) (show ([("rows", V.ref bb)] : List (Str × V)).lookup ("rows" : Str) = some (.ref bb) from rfl) (ev_var rfl)) (rv_eqD d1 d2 s1 s2)) ?_) fun H1 e1 => k H1 e1
  rw [Bool.true_and]
  congr 1
  exact eqv_drows ra rb
theorem wts_mem {l : List (List Str)} {ws : List Str} (h : ws ∈ l) : wt ws ≤ wts l := by
  induction l with
  | nil => cases h
  | cons a l ih =>
    show wt ws ≤ wt a + wts l
    rcases List.mem_cons.mp h with rfl | h
    · omega
    · have := ih h
      omega
-- slots: 0 self, 1 row
theorem SC_Text_str : FnScope ["self", "row"] ["self"] (defScope (inClass (top 57) 4)) := ⟨rfl, rfl, rfl, by decide +kernel, rfl, by decide +kernel, by decide +kernel⟩
def sp_Text_str (P : Program) (w : World) (K : PySem.W.Frag) : Sp := fun vs H Q _ => ∃ (a : Addr) (rows : List Row), vs = [.ref a] ∧ TextAt K H rows a ∧ (∀ r ∈ rows, rowM r = true) ∧ rows.length ≤ 80 ∧ wts (rows.map rowWords) ≤ 2000000 ∧ RetV (.str (form rows)) H Q
theorem me___str__ (T : Txt w K mg) : Me P w K mg base CX0 4 (He.ga K "Text") "__str__" (sp_Text_str P w K) := by
  obtain ⟨fd, F⟩ := T.dm 65 "Text" "__str__" "Text.__str__" 57 4 rfl
  refine me0 F T.k_Text (T.me_Text "__str__" (by decide)) SC_Text_str (fun vs H Q E h => by obtain ⟨a, rows, rfl, ta, hm, hl, hw, k⟩ := h; rfl) (fun _ _ _ _ _ _ us hl => match us, hl with | [_], _ => rfl) fun cdv A outer s H vs Q E hr h => ?_
  obtain ⟨a, rows, rfl, ta, hm, hl, hw, k⟩ := h
  refine ⟨_, (pss_one (ps_ret (pe_join pe_str (pe_lc (own := [("row", 1)]) (g := gName 1) (tt := tYes) rfl SC_Text_str.nd (pi_tup (pe_fld (pv 0) rfl)) (blkOk_by (own := [("row", 1)]) (N := ["self", "row"]) (sc := defScope (inClass (top 57) 4)) (by decide +kernel)) (fun _ _ _ _ _ => (pg_name (i := 1) SC_Text_str.nd rfl (Or.inl rfl))) (fun _ _ _ _ _ => pts_nil) (fun _ _ _ _ _ => (pc (cl_row_text T) hr (by decide) rfl (pa_cons (pv 1) pa_nil))))))), ?_⟩
  obtain ⟨dx, b, hat, as, hq, hp⟩ := ta
  have hal : as.length = rows.length := (Paired.length hp).symm
  refine s_ret (ev_joinN (ys := (rows.map rowWords).map fun ws => Txt.join bl ws) ev_c (el_is (el_lc (walk_tup (K := K) (a := b) (xs := as.map .ref)) (by rw [List.length_map, hal]; exact Nat.le_trans hl (by decide)) (fun i x => (as.map V.ref)[i]? = some x) (fun _ => true) (fun i => match rows[i]? with
      | some r => .str (Txt.join bl (rowWords r))
      | none => .non) (fun H1 e1 R hR => ev_fldR hat T.k_Text (T.no_Text _ (by decide)) (show ([("rows", V.ref b)] : List (Str × V)).lookup ("rows" : Str) = some (.ref b) from rfl) (ev_var rfl) H1 e1 _ fun H2 e2 => ⟨b, rfl, ⟨_, ex_t (e1.trans e2) hq⟩, hR H2 e2⟩) (fun H1 e1 => ex_t e1 hq) (fun i H0 x H' _ _ y => y) (fun _ => rfl) (fun _ _ _ _ _ _ => et_yes) (fun i x H0 hi e0 hx _ => ?_)) ?_) ?_) fun H1 e1 => k H1 e1
  · obtain ⟨ra, hra, rfl⟩ := map_at hx
    obtain ⟨r, hr1, hrow⟩ := paired_right hp hra
    rw [hr1]
    have hmem := List.mem_of_getElem? hr1
    refine ev_callV (ea1 (ev_var rfl)) fun H1 e1 Q k => ⟨ra, r, rfl, hrow.mono (e0.trans e1), hm r hmem, ?_, k⟩
    have := wts_mem (List.mem_map.mpr ⟨r, hmem, rfl⟩ : rowWords r ∈ rows.map rowWords)
    omega
  · rw [List.length_map, hal]
    rw [giv_map rows (fun r => some (.str (Txt.join bl (rowWords r)))) _ fun i x hx => by rw [if_pos rfl, hx]]
    generalize rows = l
    induction l with
    | nil => rfl
    | cons a l ih => simp
  · have h1 := wts_join (rows.map rowWords)
    have h2 : ((((rows.map rowWords).map fun ws => Txt.join bl ws)).map (·.length)).sum ≤ ((rows.map rowWords).map fun ws => (Txt.join bl ws).length + 1).sum := by
      rw [List.map_map]
      generalize rows.map rowWords = l
      induction l with
      | nil => exact Nat.le_refl _
      | cons a l ih =>
        simp only [List.map_cons, List.sum_cons, Function.comp]
        have : (List.map ((fun x : Str => x.length) ∘ fun ws => Txt.join bl ws) l).sum ≤ (List.map (fun ws => (Txt.join bl ws).length + 1) l).sum := ih
        omega
    have h3 : (lf : Str).length = 1 := by decide
    show _ + _ * (lf : Str).length ≤ _
    rw [h3]
    simp only [List.length_map] at h1 ⊢
    omega
end
end Pk
set_option Elab.async false
set_option linter.all false
set_option maxRecDepth 100000
set_option maxHeartbeats 4000000
/-! Loose promises: what kind of value, a purse that changes. -/
namespace Pk
open PySem PySem.Spec PyProof.Rows L2 Evl
/-- a purse -/
def PuL (a : Addr) (H : Hp) : Prop := ∃ x y z : Int, H a = some (.lst [.int x, .int y, .int z])
/-- only the purse has changed -/
structure Mo (pu : Option Addr) (H H' : Hp) : Prop where
  p0 : ∀ a, pu = some a → PuL a H
  p1 : ∀ a, pu = some a → PuL a H'
  ox : ∀ b o, pu ≠ some b → H b = some o → H' b = some o
abbrev TP := V → Hp → Prop
section
variable {pu : Option Addr} {H H' H1 H2 H3 : Hp} {K : PySem.W.Frag}
theorem Mo.trans (a : Mo pu H H1) (b : Mo pu H1 H2) : Mo pu H H2 := ⟨a.p0, b.p1, fun c o n h => b.ox c o n (a.ox c o n h)⟩
theorem Mo.r (a : Mo pu H H1) : Mo pu H1 H1 := ⟨a.p1, a.p1, fun _ _ _ h => h⟩
theorem Mo.l (a : Mo pu H H1) : Mo pu H H := ⟨a.p0, a.p0, fun _ _ _ h => h⟩
theorem Mo.ex (a : Mo pu H H1) (e : Ex H1 H2) : Mo pu H1 H2 := ⟨a.p1, fun c h => by
  obtain ⟨x, y, z, h⟩ := a.p1 c h
  exact ⟨x, y, z, e _ _ h⟩, fun c o _ h => e c o h⟩
theorem Mo.exL (a : Mo pu H H) (e : Ex H H2) : Mo pu H H2 := a.ex e
theorem Mo.exN (e : Ex H H2) : Mo none H H2 := ⟨fun _ h => (nomatch h), fun _ h => (nomatch h), fun c o _ h => e c o h⟩
theorem Mo.toEx (a : Mo none H H2) : Ex H H2 := fun c o h => a.ox c o (by simp) h
theorem Mo.t {b : Addr} {xs : List V} (a : Mo pu H H1) (h : SqT K H b xs) : SqT K H1 b xs := by
  rcases h with h | h
  · refine Or.inl ?_
    have key : ∀ {o : HO}, H b = some o → (∀ x y z : V, o ≠ .lst [x, y, z]) → H1 b = some o := fun {o} h hn => by
      refine a.ox b _ (fun e => ?_) h
      obtain ⟨x, y, z, h2⟩ := a.p0 b e
      rw [h] at h2
      exact hn _ _ _ (Option.some.inj h2)
    rcases h with h | ⟨o, h⟩
    · exact Or.inl (key h fun _ _ _ e => by cases e)
    · exact Or.inr ⟨o, key h fun _ _ _ e => by cases e⟩
  · exact Or.inr h
/-- a list at l is written: tuples stay -/
theorem st_updL {b l : Addr} {xs ys zs : List V} (hl : H l = some (.lst ys)) (h : SqT K H b xs) : SqT K (upd H l (.lst zs)) b xs := by
  rcases h with h | h
  · refine Or.inl ?_
    rcases h with h | ⟨o, h⟩
    · exact Or.inl (by rw [upd_ne (fun e => by subst e; rw [hl] at h; cases h)]; exact h)
    · exact Or.inr ⟨o, by rw [upd_ne (fun e => by subst e; rw [hl] at h; cases h)]; exact h⟩
  · exact Or.inr h
/-- tuples stay -/
def Ts (K : PySem.W.Frag) (H H' : Hp) : Prop := ∀ b xs, SqT K H b xs → SqT K H' b xs
theorem Mo.ts (a : Mo pu H H1) : Ts K H H1 := fun _ _ h => a.t h
/-- a kind that stays while tuples stay -/
class Sv (K : PySem.W.Frag) (T : TP) : Prop where
  st : ∀ v H H', T v H → Ts K H H' → T v H'
/-- a kind that stays while only the purse changes -/
class Sb (K : PySem.W.Frag) (pu : Option Addr) (T : TP) : Prop where
  st : ∀ v H H', T v H → Mo pu H H' → T v H'
instance (priority := 10) sb_sv {T : TP} [h : Sv K T] : Sb K pu T := ⟨fun v H H' t m => h.st v H H' t m.ts⟩
def Ti (lo hi : Int) : TP := fun v _ => ∃ i : Int, v = .int i ∧ lo ≤ i ∧ i ≤ hi
def TiA : TP := fun v _ => ∃ i : Int, v = .int i
def Tb : TP := fun v _ => ∃ b : Bool, v = .bl b
def Te (w : V) : TP := fun v _ => v = w
/-- texts of at most n signs -/
def Tq (n : Nat) : TP := fun v _ => ∃ z : Str, v = .str z ∧ z.length ≤ n ∧ PySem.PyData.strOk z = true
def To (T : TP) : TP := fun v H => v = .non ∨ T v H
def Tu (T U : TP) : TP := fun v H => T v H ∨ U v H
def Tl (pu : Option Addr) (e : TP) (lo hi : Nat) : TP := fun v H => ∃ p xs, v = .ref p ∧ pu ≠ some p ∧ H p = some (.lst xs) ∧ lo ≤ xs.length ∧ xs.length ≤ hi ∧ ∀ x ∈ xs, e x H
def Tt (K : PySem.W.Frag) (e : TP) (lo hi : Nat) : TP := fun v H => ∃ p xs, v = .ref p ∧ SqT K H p xs ∧ lo ≤ xs.length ∧ xs.length ≤ hi ∧ ∀ x ∈ xs, e x H
def All2 : List TP → List V → Hp → Prop
  | [], vs, _ => vs = []
  | e :: es, vs, H => ∃ v ws, vs = v :: ws ∧ e v H ∧ All2 es ws H
/-- a tuple of these kinds -/
def Tx (K : PySem.W.Frag) (es : List TP) : TP := fun v H => ∃ p xs, v = .ref p ∧ SqT K H p xs ∧ All2 es xs H
instance sv_Ti {a b : Int} : Sv K (Ti a b) := ⟨fun _ _ _ h _ => h⟩
instance sv_TI : Sv K TiA := ⟨fun _ _ _ h _ => h⟩
instance sv_Tb : Sv K Tb := ⟨fun _ _ _ h _ => h⟩
instance sv_Te {w : V} : Sv K (Te w) := ⟨fun _ _ _ h _ => h⟩
instance sv_Tq {n : Nat} : Sv K (Tq n) := ⟨fun _ _ _ h _ => h⟩
instance sv_To {T : TP} [h : Sv K T] : Sv K (To T) := ⟨fun v H H' t m => t.imp id fun t => h.st v H H' t m⟩
instance sv_Tu {T U : TP} [h : Sv K T] [g : Sv K U] : Sv K (Tu T U) := ⟨fun v H H' t m => t.imp (fun t => h.st v H H' t m) fun t => g.st v H H' t m⟩
instance sv_Tt {e : TP} {a b : Nat} [h : Sv K e] : Sv K (Tt K e a b) := ⟨fun v H H' t m => by
  obtain ⟨p, xs, e1, h1, h2, h3, h4⟩ := t
  exact ⟨p, xs, e1, m _ _ h1, h2, h3, fun x hx => h.st x H H' (h4 x hx) m⟩⟩
class SvA (K : PySem.W.Frag) (es : List TP) : Prop where
  st : ∀ vs H H', All2 es vs H → Ts K H H' → All2 es vs H'
instance sva_nil : SvA K [] := ⟨fun _ _ _ h _ => h⟩
instance sva_cons {e : TP} {es : List TP} [h : Sv K e] [g : SvA K es] : SvA K (e :: es) := ⟨fun vs H H' t m => by
  obtain ⟨v, ws, e1, h1, h2⟩ := t
  exact ⟨v, ws, e1, h.st v H H' h1 m, g.st ws H H' h2 m⟩⟩
instance sv_Tx {es : List TP} [h : SvA K es] : Sv K (Tx K es) := ⟨fun v H H' t m => by
  obtain ⟨p, xs, e1, h1, h2⟩ := t
  exact ⟨p, xs, e1, m _ _ h1, h.st _ _ _ h2 m⟩⟩
instance sb_Tl {e : TP} {a b : Nat} [h : Sv K e] : Sb K pu (Tl pu e a b) := ⟨fun v H H' t m => by
  obtain ⟨p, xs, e1, h1, h2, h3, h4, h5⟩ := t
  exact ⟨p, xs, e1, h1, m.ox _ _ h1 h2, h3, h4, fun x hx => h.st x H H' (h5 x hx) m.ts⟩⟩
class SbA (K : PySem.W.Frag) (pu : Option Addr) (es : List TP) : Prop where
  st : ∀ vs H H', All2 es vs H → Mo pu H H' → All2 es vs H'
instance sba_nil : SbA K pu [] := ⟨fun _ _ _ h _ => h⟩
instance sba_cons {e : TP} {es : List TP} [h : Sb K pu e] [g : SbA K pu es] : SbA K pu (e :: es) := ⟨fun vs H H' t m => by
  obtain ⟨v, ws, e1, h1, h2⟩ := t
  exact ⟨v, ws, e1, h.st v H H' h1 m, g.st ws H H' h2 m⟩⟩
/-- te gives a value of this kind -/
def Gv (pu : Option Addr) (te : TE) (σ : L2.St) (H : Hp) (T : TP) : Prop := ∀ H1, Mo pu H H1 → ∀ Q : VK, (∀ v H2, Mo pu H1 H2 → T v H2 → Q v H2) → te σ H1 Q
def GtR (pu : Option Addr) (t : TT) (σ : L2.St) (H : Hp) (R : Bool → Prop) : Prop := ∀ H1, Mo pu H H1 → ∀ Q : Bool → Hp → Prop, (∀ b H2, Mo pu H1 H2 → R b → Q b H2) → t σ H1 Q
def GvA (pu : Option Addr) (t : TA) (σ : L2.St) (H : Hp) (es : List TP) : Prop := ∀ H1, Mo pu H H1 → ∀ Q : List V → Hp → Prop, (∀ vs H2, Mo pu H1 H2 → All2 es vs H2 → Q vs H2) → t σ H1 Q
def GvO (pu : Option Addr) (t : TO) (σ : L2.St) (H : Hp) : Prop := ∀ H1, Mo pu H H1 → ∀ Q : Option Int → Hp → Prop, (∀ o H2, Mo pu H1 H2 → Q o H2) → t σ H1 Q
end
abbrev ATb : Bool → Prop := fun _ => True
section
variable {pu : Option Addr} {K : PySem.W.Frag} {σ : L2.St} {H H' : Hp} {ta tb tc te tx : TE} {t u : TT} {x y z v w : V} {D : Ends} {tu tw tz : TS} {g : TG} {T U S T1 T2 : TP} {es : List TP} {tt : TA}
theorem Gv.imp (h : Gv pu te σ H T) (k : ∀ v H1, Mo pu H H1 → T v H1 → U v H1) : Gv pu te σ H U := fun H1 m Q q => h H1 m Q fun v H2 m2 t => q v H2 m2 (k v H2 (m.trans m2) t)
theorem Gv.mono (m : Mo pu H H') (h : Gv pu te σ H T) : Gv pu te σ H' T := fun H1 m1 Q q => h H1 (m.trans m1) Q q
theorem gv_c (h : ∀ H1, T v H1) : Gv pu (tC v) σ H T := fun H1 m Q q => q v H1 m.r (h H1)
theorem gv_v {i : Nat} (h0 : σ[i]? = some (some v)) (h : T v H) [s : Sb K pu T] : Gv pu (tVar i) σ H T := fun H1 m Q q => ⟨v, h0, q v H1 m.r (s.st v H H1 h m)⟩
theorem gv_e {i : Nat} (h0 : σ[i]? = some (some v)) : Gv pu (tVar i) σ H (Te v) := fun H1 m Q q => ⟨v, h0, q v H1 m.r rfl⟩
theorem gv_ev (h : ∀ H1, Mo pu H H1 → Ev te σ H1 v) : Gv pu te σ H (Te v) := fun H1 m Q q => h H1 m H1 (Ex.refl _) _ fun H2 e => q v H2 (m.ex e) rfl
theorem gv_op {r : R2} (s : Sb K pu T1) (ha : Gv pu ta σ H T1) (hb : Gv pu tb σ H T2) (hr : ∀ x y H2 (Q : VK), Mo pu H H2 → T1 x H2 → T2 y H2 → (∀ v H3, Mo pu H2 H3 → T v H3 → Q v H3) → r x y H2 Q) : Gv pu (tOp r ta tb) σ H T := fun H1 m Q q =>
  ha H1 m _ fun x H2 m2 t1 => hb H2 (m.trans m2) _ fun y H3 m3 t2 => hr x y H3 Q ((m.trans m2).trans m3) (s.st x H2 H3 t1 m3) t2 fun v H4 m4 t => q v H4 ((m2.trans m3).trans m4) t
theorem gv_rI {C : Int → Int → Prop} {f : Int → Int → V} {a b a' b' : Int} (ha : Gv pu ta σ H (Ti a b)) (hb : Gv pu tb σ H (Ti a' b')) (hc : ∀ i j, a ≤ i → i ≤ b → a' ≤ j → j ≤ b' → C i j) (hf : ∀ i j H2, a ≤ i → i ≤ b → a' ≤ j → j ≤ b' → T (f i j) H2) : Gv pu (tOp (rI C f) ta tb) σ H T :=
  gv_op (K := []) inferInstance ha hb fun x y H2 Q m t1 t2 q => by
    obtain ⟨i, rfl, h1, h2⟩ := t1
    obtain ⟨j, rfl, h3, h4⟩ := t2
    exact ⟨i, j, rfl, rfl, hc i j h1 h2 h3 h4, q _ H2 m.r (hf i j H2 h1 h2 h3 h4)⟩
theorem gv_rI0 {f : Int → Int → V} {a b a' b' : Int} (ha : Gv pu ta σ H (Ti a b)) (hb : Gv pu tb σ H (Ti a' b')) (hf : ∀ i j H2, a ≤ i → i ≤ b → a' ≤ j → j ≤ b' → T (f i j) H2) : Gv pu (tOp (rI0 f) ta tb) σ H T :=
  gv_op (K := []) inferInstance ha hb fun x y H2 Q m t1 t2 q => by
    obtain ⟨i, rfl, h1, h2⟩ := t1
    obtain ⟨j, rfl, h3, h4⟩ := t2
    exact ⟨i, j, rfl, rfl, q _ H2 m.r (hf i j H2 h1 h2 h3 h4)⟩
theorem gv_add {a b a' b' : Int} (ha : Gv pu ta σ H (Ti a b)) (hb : Gv pu tb σ H (Ti a' b')) : Gv pu (tOp (rI0 fun i j => .int (i + j)) ta tb) σ H (Ti (a + a') (b + b')) :=
  gv_rI0 ha hb fun i j _ h1 h2 h3 h4 => ⟨i + j, rfl, by omega, by omega⟩
theorem gv_int {i : Int} : Gv pu (tC (.int i)) σ H (Ti i i) := gv_c fun _ => ⟨i, rfl, Int.le_refl _, Int.le_refl _⟩
theorem gv_q {z : Str} {n : Nat} (h : z.length ≤ n) (k : PySem.PyData.strOk z = true) : Gv pu (tC (.str z)) σ H (Tq n) := gv_c fun _ => ⟨z, rfl, h, k⟩
theorem gv_iw {a b a' b' : Int} (h : Gv pu te σ H (Ti a b)) (h1 : a' ≤ a) (h2 : b ≤ b') : Gv pu te σ H (Ti a' b') := h.imp fun v _ _ t => by
  obtain ⟨i, rfl, h3, h4⟩ := t
  exact ⟨i, rfl, by omega, by omega⟩
theorem gv_qw {n m : Nat} (h : Gv pu te σ H (Tq n)) (h1 : n ≤ m) : Gv pu te σ H (Tq m) := h.imp fun v _ _ t => by
  obtain ⟨i, rfl, h3, h4⟩ := t
  exact ⟨i, rfl, by omega, h4⟩
/-- == of flat values -/
theorem gv_eq {p : V → V → Bool} {r : R2} (s : Sb K pu T1) (ha : Gv pu ta σ H T1) (hb : Gv pu tb σ H T2) (hr : ∀ x y H2 (Q : VK), Mo pu H H2 → T1 x H2 → T2 y H2 → (∀ b, Q (.bl b) H2) → r x y H2 Q) : Gv pu (tOp r ta tb) σ H Tb :=
  gv_op s ha hb fun x y H2 Q m t1 t2 q => hr x y H2 Q m t1 t2 fun b => q _ H2 m.r ⟨b, rfl⟩
theorem gva_nil : GvA pu tNil σ H [] := fun H1 m Q q => q [] H1 m.r rfl
theorem gva_cons {e : TP} (s : Sb K pu e) (ha : Gv pu ta σ H e) (hb : GvA pu tt σ H es) : GvA pu (tCons ta tt) σ H (e :: es) := fun H1 m Q q =>
  ha H1 m _ fun x H2 m2 t1 => hb H2 (m.trans m2) _ fun ys H3 m3 t2 => q _ H3 (m2.trans m3) ⟨x, ys, rfl, s.st x H2 H3 t1 m3, t2⟩
theorem gv_call {sp : Sp} {E : XK} (ha : GvA pu tt σ H es) (hs : ∀ vs H1 (Q : VK), Mo pu H H1 → All2 es vs H1 → (∀ v H2, Mo pu H1 H2 → T v H2 → Q v H2) → sp vs H1 Q E) : Gv pu (tCall sp [] E tt) σ H T := fun H1 m Q q =>
  ha H1 m _ fun vs H2 m2 t => by
    rw [List.append_nil]
    exact hs vs H2 Q (m.trans m2) t fun v H3 m3 t3 => q v H3 (m2.trans m3) t3
theorem gv_cb {r : List V → Hp → VK → Prop} (ha : GvA pu tt σ H es) (hs : ∀ vs H1 (Q : VK), Mo pu H H1 → All2 es vs H1 → (∀ v H2, Mo pu H1 H2 → T v H2 → Q v H2) → r vs H1 Q) : Gv pu (tCB r tt) σ H T := fun H1 m Q q =>
  ha H1 m _ fun vs H2 m2 t => hs vs H2 Q (m.trans m2) t fun v H3 m3 t3 => q v H3 (m2.trans m3) t3
/-- a new tuple -/
theorem gv_tup (s : SbA K pu es) (hn : es.length ≤ 100) (ha : GvA pu tt σ H es) : Gv pu (tTup tt) σ H (Tx K es) := fun H1 m Q q =>
  ha H1 m _ fun vs H2 m2 t => by
    have hl : ∀ (es : List TP) (vs : List V), All2 es vs H2 → vs.length = es.length := by
      intro es
      induction es with
      | nil => intro vs h; cases h; rfl
      | cons e es ih =>
        intro vs h
        obtain ⟨v, ws, rfl, _, h⟩ := h
        rw [List.length_cons, List.length_cons, ih ws h]
    refine ⟨by rw [hl es vs t]; exact sz (Nat.le_trans hn (by decide)), fun p hp => ?_⟩
    have m3 := m2.trans ((m.trans m2).ex (Ex.new (o := .tup vs) hp))
    exact q _ _ m3 ⟨p, vs, rfl, st_of upd_same, s.st _ _ _ t ((m.trans m2).ex (Ex.new hp))⟩
def AllE (e : TP) (vs : List V) (H : Hp) : Prop := ∀ x ∈ vs, e x H
theorem all2_e {e : TP} : ∀ {n : Nat} {vs : List V}, All2 (List.replicate n e) vs H → vs.length = n ∧ ∀ x ∈ vs, e x H := by
  intro n
  induction n with
  | zero => intro vs h; cases h; exact ⟨rfl, fun x hx => by cases hx⟩
  | succ n ih =>
    intro vs h
    obtain ⟨v, ws, rfl, h1, h2⟩ := h
    obtain ⟨h3, h4⟩ := ih h2
    exact ⟨by rw [List.length_cons, h3], fun x hx => by
      rcases List.mem_cons.mp hx with rfl | hx
      · exact h1
      · exact h4 x hx⟩
/-- args all of one kind -/
def GvE (pu : Option Addr) (t : TA) (σ : L2.St) (H : Hp) (e : TP) (n : Nat) : Prop := ∀ H1, Mo pu H H1 → ∀ Q : List V → Hp → Prop, (∀ vs H2, Mo pu H1 H2 → vs.length = n → (∀ x ∈ vs, e x H2) → Q vs H2) → t σ H1 Q
theorem gve_nil {e : TP} : GvE pu tNil σ H e 0 := fun H1 m Q q => q [] H1 m.r rfl fun x hx => by cases hx
theorem gve_cons {e : TP} {n : Nat} (s : Sb K pu e) (ha : Gv pu ta σ H e) (hb : GvE pu tt σ H e n) : GvE pu (tCons ta tt) σ H e (n + 1) := fun H1 m Q q =>
  ha H1 m _ fun x H2 m2 t1 => hb H2 (m.trans m2) _ fun ys H3 m3 hl t2 => q _ H3 (m2.trans m3) (by rw [List.length_cons, hl]) fun z hz => by
    rcases List.mem_cons.mp hz with rfl | hz
    · exact s.st _ H2 H3 t1 m3
    · exact t2 z hz
theorem ne_fresh {p : Addr} (m : Mo pu H' H) (hp : H p = none) : pu ≠ some p := fun e => by
  obtain ⟨x, y, z, h⟩ := m.p1 p e
  rw [hp] at h
  cases h
/-- a new list -/
theorem gv_lst {e : TP} {n : Nat} (s : Sb K pu e) (hn : n ≤ 100) (ha : GvE pu tt σ H e n) : Gv pu (tLst tt) σ H (Tl pu e n n) := fun H1 m Q q =>
  ha H1 m _ fun vs H2 m2 hl t => ⟨by rw [hl]; exact sz (Nat.le_trans hn (by decide)), fun p hp => by
    have m3 := (m.trans m2).ex (Ex.new (o := .lst vs) hp)
    exact q _ _ (m2.trans m3) ⟨p, vs, rfl, ne_fresh (m.trans m2) hp, upd_same, Nat.le_of_eq hl.symm, Nat.le_of_eq hl, fun x hx => s.st _ _ _ (t x hx) m3⟩⟩
theorem atI_ok {xs : List V} {i : Int} (h1 : 0 ≤ i) (h2 : i < xs.length) : ∃ v, atI xs i = some v ∧ v ∈ xs := by
  obtain ⟨k, rfl⟩ := Int.eq_ofNat_of_zero_le h1
  have hk : k < xs.length := by omega
  exact ⟨xs[k], atI_nat (List.getElem?_eq_getElem hk), List.getElem_mem hk⟩
theorem gv_ixL {e : TP} {lo hi : Nat} {n : Int} (s : Sb K pu (Tl pu e lo hi)) (ha : Gv pu ta σ H (Tl pu e lo hi)) (hb : Gv pu tb σ H (Ti 0 n)) (hn : n < lo) : Gv pu (tOp (rIxL K) ta tb) σ H e :=
  gv_op s ha hb fun x y H2 Q m t1 t2 q => by
    obtain ⟨p, xs, rfl, _, h1, h2, h3, h4⟩ := t1
    obtain ⟨i, rfl, h5, h6⟩ := t2
    obtain ⟨v, hv, hm⟩ := atI_ok (xs := xs) h5 (by omega)
    exact ⟨p, xs, i, v, rfl, rfl, sq_of h1, hv, q v H2 m.r (h4 v hm)⟩
theorem gv_ixT {e : TP} {lo hi : Nat} {n : Int} (s : Sb K pu (Tt K e lo hi)) (ha : Gv pu ta σ H (Tt K e lo hi)) (hb : Gv pu tb σ H (Ti 0 n)) (hn : n < lo) : Gv pu (tOp (rIxT K) ta tb) σ H e :=
  gv_op s ha hb fun x y H2 Q m t1 t2 q => by
    obtain ⟨p, xs, rfl, h1, h2, h3, h4⟩ := t1
    obtain ⟨i, rfl, h5, h6⟩ := t2
    obtain ⟨v, hv, hm⟩ := atI_ok (xs := xs) h5 (by omega)
    exact ⟨p, xs, i, v, rfl, rfl, h1, hv, q v H2 m.r (h4 v hm)⟩
/-- statements -/
theorem y_asg {i : Nat} (m : Mo pu H H) (h : Gv pu te σ H T) (k : ∀ v H1, Mo pu H H1 → T v H1 → tz D (σ.set i (some v)) H1) : tSeq (tAsg te (gName i)) tz D σ H := h H m _ k
theorem y_ret (m : Mo pu H H) (h : Gv pu te σ H T) (k : ∀ v H1, Mo pu H H1 → T v H1 → D.rt v H1) : tRet te D σ H := h H m _ k
theorem y_when {R : Bool → Prop} (m : Mo pu H H) (h : GtR pu t σ H R) (h1 : ∀ H1, Mo pu H H1 → R true → tu { D with nx := tz D } σ H1) (h2 : ∀ H1, Mo pu H H1 → R false → tz D σ H1) : tSeq (tIfS t tu tNext) tz D σ H := h H m _ fun b H1 m1 r => by
  cases b with
  | true => exact h1 H1 m1 r
  | false => exact h2 H1 m1 r
theorem y_whenS {R : Bool → Prop} (m : Mo pu H H) (h : GtR pu t σ H R) (h1 : ∀ H1, Mo pu H H1 → R true → tu D σ H1) (h2 : ∀ H1, Mo pu H H1 → R false → D.nx σ H1) : tIfS t tu tNext D σ H := h H m _ fun b H1 m1 r => by
  cases b with
  | true => exact h1 H1 m1 r
  | false => exact h2 H1 m1 r
theorem y_if {R : Bool → Prop} (m : Mo pu H H) (h : GtR pu t σ H R) (h1 : ∀ H1, Mo pu H H1 → R true → tu { D with nx := tz D } σ H1) (h2 : ∀ H1, Mo pu H H1 → R false → tw { D with nx := tz D } σ H1) : tSeq (tIfS t tu tw) tz D σ H := h H m _ fun b H1 m1 r => by
  cases b with
  | true => exact h1 H1 m1 r
  | false => exact h2 H1 m1 r
/-- tests -/
theorem gt_B {R : Bool → Prop} (h : Gv pu te σ H fun v _ => ∃ b, v = .bl b ∧ R b) : GtR pu (tB te) σ H R := fun H1 m Q q => h H1 m _ fun v H2 m2 t => by
  obtain ⟨b, e, r⟩ := t
  exact ⟨b, e, q b H2 m2 r⟩
theorem gt_Test {R : Bool → Prop} (h : Gv pu te σ H fun v _ => ∃ b, v = .bl b ∧ R b) : GtR pu (tTest te) σ H R := fun H1 m Q q => h H1 m _ fun v H2 m2 t => by
  obtain ⟨b, e, r⟩ := t
  exact ⟨b, e, q b H2 m2 r⟩
theorem gt_b (h : Gv pu te σ H Tb) : GtR pu (tB te) σ H ATb := gt_B (h.imp fun v _ _ t => by obtain ⟨b, e⟩ := t; exact ⟨b, e, trivial⟩)
theorem gt_test (h : Gv pu te σ H Tb) : GtR pu (tTest te) σ H ATb := gt_Test (h.imp fun v _ _ t => by obtain ⟨b, e⟩ := t; exact ⟨b, e, trivial⟩)
theorem gt_and {R S W : Bool → Prop} (h : GtR pu t σ H S) (h2 : S true → GtR pu u σ H W) (h3 : S false → R false) (h4 : ∀ b, S true → W b → R b) : GtR pu (tAnd t u) σ H R := fun H1 m Q q => h H1 m _ fun b H2 m2 s => by
  cases b with
  | true => exact h2 s H2 (m.trans m2) Q fun b H3 m3 r => q b H3 (m2.trans m3) (h4 b s r)
  | false => exact q false H2 m2 (h3 s)
theorem gt_or {R S W : Bool → Prop} (h : GtR pu t σ H S) (h2 : S false → GtR pu u σ H W) (h3 : S true → R true) (h4 : ∀ b, S false → W b → R b) : GtR pu (tOr t u) σ H R := fun H1 m Q q => h H1 m _ fun b H2 m2 s => by
  cases b with
  | false => exact h2 s H2 (m.trans m2) Q fun b H3 m3 r => q b H3 (m2.trans m3) (h4 b s r)
  | true => exact q true H2 m2 (h3 s)
theorem gt_and1 (h : GtR pu t σ H ATb) (h2 : GtR pu u σ H ATb) : GtR pu (tAnd t u) σ H ATb := gt_and h (fun _ => h2) (fun _ => trivial) fun _ _ _ => trivial
theorem gt_or1 (h : GtR pu t σ H ATb) (h2 : GtR pu u σ H ATb) : GtR pu (tOr t u) σ H ATb := gt_or h (fun _ => h2) (fun _ => trivial) fun _ _ _ => trivial
theorem gt_not {R S : Bool → Prop} (h : GtR pu t σ H S) (k : ∀ b, S b → R (!b)) : GtR pu (tNot t) σ H R := fun H1 m Q q => h H1 m _ fun b H2 m2 s => q _ H2 m2 (k b s)
theorem gt_et {b : Bool} (h : ∀ H1, Mo pu H H1 → EvT t σ H1 b) : GtR pu t σ H fun c => c = b := fun H1 m Q q => h H1 m H1 (Ex.refl _) _ fun H2 e => q b H2 (m.ex e) rfl
theorem gv_if {R : Bool → Prop} (h : GtR pu t σ H R) (h1 : R true → Gv pu ta σ H T) (h2 : R false → Gv pu tb σ H T) : Gv pu (tIf t ta tb) σ H T := fun H1 m Q q => h H1 m _ fun b H2 m2 r => by
  cases b with
  | true => exact h1 r H2 (m.trans m2) Q fun v H3 m3 t => q v H3 (m2.trans m3) t
  | false => exact h2 r H2 (m.trans m2) Q fun v H3 m3 t => q v H3 (m2.trans m3) t
theorem tYes_i {R : Bool → Hp → Prop} (h : R true H) : tYes σ H R := h
theorem ifp1 {A B : Prop} (h : A) : if true = true then A else B := by rw [if_pos rfl]; exact h
/-- the range, in a comprehension whose turns may take from the purse -/
theorem gv_lcW {J : It} {n : Nat} {G : Hp → Prop} {Y : Nat → Hp → V → Hp → Prop} {j : Nat} {vs : List Nat} {e : TP} {H1 : Hp} {Q : VK} (wk : Walk J n G Y) (hn : n ≤ sizeLine) (At : V → Hp → Prop) (sv : Sv K e) (m : Mo pu H1 H1)
    (hG : ∀ H0, Mo pu H1 H0 → G H0) (hY : ∀ i H0 x H', i < n → Mo pu H1 H0 → Y i H0 x H' → H' = H0 ∧ At x H0) (hw : ∀ x, wipe ((wipe σ vs).set j (some x)) vs = wipe σ vs)
    (ht : ∀ (x : V) H0, Mo pu H1 H0 → At x H0 → GtR pu t ((wipe σ vs).set j (some x)) H0 ATb) (he : ∀ (x : V) H0, Mo pu H1 H0 → At x H0 → Gv pu te ((wipe σ vs).set j (some x)) H0 e)
    (q : ∀ D H2 xs, H1 D = none → Mo pu H1 H2 → H2 D = some (.lst xs) → xs.length ≤ n → (t = tYes → xs.length = n) → (∀ x ∈ xs, e x H2) → Q (.ref D) H2) :
    ∀ D, H1 D = none → ∃ W : Nat → Nat → Hp → Prop, (∃ m, W 0 m (upd H1 D (.lst []))) ∧ ∀ i m H, W i m H →
      (J.stop i H ∧ Q (.ref D) H) ∨ (J.go i H ∧ ∃ Nx : Hp → Prop, (∀ H', Nx H' → ∃ m', m' < m ∧ W (i + 1) m' H') ∧ ∀ x H', J.yld i H x H' → gName j x (wipe σ vs) H' fun σ2 H2 => wipe σ2 vs = wipe σ vs ∧ t σ2 H2 fun b H3 =>
        if b = true then te σ2 H3 fun y H4 => ∃ acc, H4 D = some (.lst acc) ∧ acc.length < sizeLine ∧ Nx (upd H4 D (.lst (acc ++ [y]))) else Nx H3) := by
  intro D hD
  have hpu := ne_fresh m hD
  have upd_mo : ∀ {H0 : Hp} {o : HO}, Mo pu H1 H0 → Mo pu H1 (upd H0 D o) := fun {H0 o} m0 => ⟨m0.p0, fun a ha => by
    obtain ⟨x, y, z, h⟩ := m0.p1 a ha
    exact ⟨x, y, z, by rw [upd_ne (fun e => hpu (by rw [← e]; exact ha))]; exact h⟩, fun b o n h => by
    rw [upd_ne (fun e => by subst e; rw [hD] at h; cases h)]
    exact m0.ox b o n h⟩
  refine lc_it wk (fun i H => Mo pu H1 H ∧ ∃ xs, H D = some (.lst xs) ∧ xs.length ≤ i ∧ (t = tYes → xs.length = i) ∧ ∀ x ∈ xs, e x H) ⟨upd_mo m, [], upd_same, Nat.zero_le _, fun _ => rfl, fun x hx => by cases hx⟩ (fun i H _ p => hG H p.1) (fun i x H H' hi p y => ?_) (fun H p => ?_)
  · obtain ⟨m0, xs, h1, h2, h3, h4⟩ := p
    obtain ⟨rfl, ha⟩ := hY i H x _ hi m0 y
    refine ⟨hw x, ?_⟩
    have step : ∀ H3, Mo pu H' H3 → te ((wipe σ vs).set j (some x)) H3 fun y H4 => ∃ acc, H4 D = some (.lst acc) ∧ acc.length < sizeLine ∧ (Mo pu H1 (upd H4 D (.lst (acc ++ [y]))) ∧ ∃ xs, (upd H4 D (.lst (acc ++ [y]))) D = some (.lst xs) ∧ xs.length ≤ i + 1 ∧ (t = tYes → xs.length = i + 1) ∧ ∀ x ∈ xs, e x (upd H4 D (.lst (acc ++ [y])))) := fun H3 m3 =>
      he x H' m0 ha H3 m3 _ fun y H4 m4 ty => by
        have m5 := m3.trans m4
        have hl := m5.ox D _ hpu h1
        refine ⟨xs, hl, by omega, upd_mo (m0.trans m5), xs ++ [y], upd_same, by rw [List.length_append]; exact Nat.succ_le_succ h2, fun e => by rw [List.length_append, h3 e]; rfl, fun z hz => ?_⟩
        have tsu : Ts K H4 (upd H4 D (.lst (xs ++ [y]))) := fun b ws h => st_updL hl h
        rcases List.mem_append.mp hz with hz | hz
        · exact sv.st _ _ _ (sv.st _ _ _ (h4 z hz) m5.ts) tsu
        · rw [List.mem_singleton.mp hz]
          exact sv.st _ _ _ ty tsu
    by_cases et : t = tYes
    · subst et
      exact tYes_i (ifp1 (step H' (Mo.r m0)))
    · refine ht x H' m0 ha H' m0.r _ fun b H3 m3 _ => ?_
      cases b with
      | true =>
        rw [if_pos rfl]
        exact step H3 m3
      | false =>
        rw [if_neg Bool.false_ne_true]
        exact ⟨m0.trans m3, xs, m3.ox D _ hpu h1, Nat.le_succ_of_le h2, fun e => absurd e et, fun z hz => sv.st _ _ _ (h4 z hz) m3.ts⟩
  · obtain ⟨m0, xs, h1, h2, h3, h4⟩ := p
    exact q D H xs hD m0 h1 h2 h3 h4
theorem gv_lcR {tn : TE} {j : Nat} {vs : List Nat} {e : TP} {a b : Int} (hn : Gv pu tn σ H (Ti a b)) (h0 : 0 ≤ a) (hb : b ≤ 1000000) (sv : Sv K e) (hw : ∀ x, wipe ((wipe σ vs).set j (some x)) vs = wipe σ vs)
    (he : ∀ (i : Int) H0, Mo pu H H0 → 0 ≤ i → i < b → Gv pu te ((wipe σ vs).set j (some (.int i))) H0 e) : Gv pu (tLc (iRng1 (tCons tn tNil)) (gName j) tYes te vs) σ H (Tl pu e a.toNat b.toNat) := fun H1 m Q q =>
  hn H1 m _ fun v H2 m2 tv => by
    obtain ⟨i, rfl, h1, h2⟩ := tv
    refine ⟨i, rfl, by omega, by omega, ?_⟩
    refine gv_lcW (K := K) (pu := pu) walk_range (sz (by omega)) (fun x _ => ∃ k : Int, x = .int k ∧ 0 ≤ k ∧ k < b) sv m2.r (fun _ _ => trivial) (fun k H0 x H' hk _ y => ⟨y.1, _, y.2, by omega, by omega⟩) hw (fun x H0 m0 ha => ?_) (fun x H0 m0 ha => ?_) fun D H3 xs hD m3 h3 h4 h5 h6 => ?_
    · exact fun H1 m Q q => q true H1 m.r trivial
    · obtain ⟨k, rfl, hk, hk2⟩ := ha
      exact he k H0 ((m.trans m2).trans m0) hk hk2
    · exact q _ H3 (m2.trans m3) ⟨D, xs, rfl, ne_fresh m2.r hD, h3, by rw [h5 rfl]; omega, by omega, h6⟩
end
end Pk
set_option Elab.async false
set_option linter.all false
set_option maxRecDepth 100000
set_option maxHeartbeats 4000000
/-! The purse. -/
namespace Pk
open PySem PySem.Spec PyProof.Rows L2 Evl
section
variable {K : PySem.W.Frag} {σ : L2.St} {H H' : Hp} {tv to ti te : TE} {D : Ends} {tz : TS}
theorem y_setL {p : Addr} {xs : List V} {k : Int} {j : Nat} {v : V} (hv : Ev tv σ H v) (ho : Ev to σ H (.ref p)) (hi : Ev ti σ H (.int k)) (hp : H p = some (.lst xs)) (hj : ixN xs.length k = some j) (kk : ∀ H1, Ex H H1 → tz D σ (upd H1 p (.lst (xs.set j v)))) :
    tSeq (tAsg tv (gSub to ti rSetL)) tz D σ H := q_asgSub hv ho hi fun H1 e => ⟨p, xs, k, j, rfl, rfl, e _ _ hp, hj, kk H1 e⟩
theorem mo_put {a : Addr} {H1 : Hp} {x y z x' y' z' : Int} (e : Ex H H1) (hp : H a = some (.lst [.int x, .int y, .int z])) : Mo (some a) H (upd H1 a (.lst [.int x', .int y', .int z'])) :=
  ⟨fun b h => by cases h; exact ⟨_, _, _, hp⟩, fun b h => by cases h; exact ⟨_, _, _, upd_same⟩, fun b o n h => by
    rw [upd_ne (fun e => n (by rw [e]))]
    exact e b o h⟩
theorem y_setP {a : Addr} {x y z x' y' z' k v : Int} {j : Nat} (hv : Ev tv σ H (.int v)) (ho : Ev to σ H (.ref a)) (hi : Ev ti σ H (.int k)) (hp : H a = some (.lst [.int x, .int y, .int z])) (hj : ixN 3 k = some j)
    (hs : [V.int x, .int y, .int z].set j (.int v) = [.int x', .int y', .int z']) (kk : ∀ H1, Mo (some a) H H1 → H1 a = some (.lst [.int x', .int y', .int z']) → tz D σ H1) : tSeq (tAsg tv (gSub to ti rSetL)) tz D σ H :=
  y_setL hv ho hi hp hj fun H1 e => by
    rw [hs]
    exact kk _ (mo_put e hp) upd_same
end
section
variable {P : Program} {w : World} {K : PySem.W.Frag} {mg : Str → Option Value} {base : Heap}
def sp_law_cell (K : PySem.W.Frag) : Sp := fun vs H Q _ => ∃ (a : Addr) (xs : List Int) (k : Nat), vs = [.ref a, .int k] ∧ SqL K H a (xs.map V.int) ∧ xs.length ≤ 1000000 ∧ k ≤ 100 ∧ ∀ i H', Same H H' → Q (.int i) H'
def sp_law_purse (K : PySem.W.Frag) : Sp := fun vs H Q _ => ∃ c : Int, vs = [.int c] ∧ ∀ (x y z : Int) (p : Addr) H', H p = none → Ex H H' → H' p = some (.lst [.int x, .int y, .int z]) → Q (.ref p) H'
def sp_law_pick (K : PySem.W.Frag) : Sp := fun vs H Q _ => ∃ (a : Addr) (many : Int), vs = [.ref a, .int many] ∧ PuL a H ∧ 1 ≤ many ∧ many ≤ 1000000 ∧ ∀ r H', Mo (some a) H H' → 0 ≤ r → r < many → Q (.int r) H'
theorem fmod_lt {i m : Int} (h : 1 ≤ m) : 0 ≤ i.fmod m ∧ i.fmod m < m := ⟨Int.fmod_nonneg_of_pos i (by omega), Int.fmod_lt_of_pos i (by omega)⟩
theorem cmul_l {i j : Int} (h : 0 ≤ i) (h2 : i < 1000000093) : CMul i j := Or.inl (by have : (2:Int) ^ 64 = 18446744073709551616 := by decide
                                                                                      omega)
-- slots: 0 _law_purse_here, 1 _law_many, 2 _law_state, 3 _law_taken
theorem SC__law_pick : FnScope ["_law_purse_here", "_law_many", "_law_state", "_law_taken"] ["_law_purse_here", "_law_many"] (defScope (top 66)) := ⟨rfl, rfl, rfl, by decide +kernel, rfl, by decide +kernel, by decide +kernel⟩
theorem cl_law_pick (T : Txt w K mg) : Cl P w K mg base CX0 1 "_law_pick" (sp_law_pick K) := by
  obtain ⟨fd, F, hm⟩ := T.df 30 "_law_pick" 66 rfl
  refine cl0 F hm SC__law_pick (fun vs H Q E h => by obtain ⟨a, many, rfl, hp, h1, h2, k⟩ := h; rfl) (fun _ _ _ _ _ _ us hl => match us, hl with | [_, _], _ => rfl) fun cdv A outer s H vs Q E hr h => ?_
  obtain ⟨a, many, rfl, hp, h1, h2, k⟩ := h
  refine ⟨_, (pss_cons (ps_asg (pe_op op_add (pe_ix ix_list (pv 0) pe_int (fun _ _ => rfl)) pe_int) (pg_sub (pv 0) pe_int set_list))
      (pss_cons (ps_set (i := 2) SC__law_pick.nd rfl (Or.inl rfl) (pe_op op_modN (pe_ix ix_list (pv 0) pe_int (fun _ _ => rfl)) pe_int))
      (pss_cons (ps_asg (pe_op op_add (pe_op op_mul (pv 2) (pe_op op_add (pe_op op_modN (pv 2) pe_int) pe_int)) (pe_op op_mul pe_int (pe_ix ix_list (pv 0) pe_int (fun _ _ => rfl)))) (pg_sub (pv 0) pe_int set_list))
      (pss_cons (ps_if (pt_cmpR op_gt (pe_ix ix_list (pv 0) pe_int (fun _ _ => rfl)) pe_int (nomark _)) (pss_cons (ps_set (i := 3) SC__law_pick.nd rfl (Or.inl rfl) (pe_op op_modN (pe_ix ix_list (pv 0) pe_int (fun _ _ => rfl)) (pv 1)))
        (pss_cons (ps_asg (pe_op op_fdivN (pe_ix ix_list (pv 0) pe_int (fun _ _ => rfl)) (pv 1)) (pg_sub (pv 0) pe_int set_list))
        (pss_one (ps_ret (pv 3))))) pss_nil)
      (pss_one (ps_ret (pe_op op_modN (pe_op op_fdivN (pe_op op_modN (pe_ix ix_list (pv 0) pe_int (fun _ _ => rfl)) pe_int) pe_int) (pv 1)))))))), ?_⟩
  obtain ⟨x, y, z, hp⟩ := hp
  have hM : ∀ i : Int, 0 ≤ i.fmod 1000000093 ∧ i.fmod 1000000093 < 1000000093 := fun i => fmod_lt (by decide)
  refine y_setP (k := 2) (j := 2) (ev_op (ev_op (ev_var rfl) ev_c (rv_ixL (sq_of hp) rfl)) ev_c rv_I0) (ev_var rfl) ev_c hp rfl rfl fun H1 m1 g1 => ?_
  refine q_asg (ev_op (ev_op (ev_var rfl) ev_c (rv_ixL (sq_of g1) rfl)) ev_c (rv_I (by decide))) fun H2 e2 => ?_
  have g2 := e2 _ _ g1
  refine y_setP (k := 0) (j := 0) (ev_op (ev_op (ev_var rfl) (ev_op (ev_op (ev_var rfl) ev_c (rv_I (by decide))) ev_c rv_I0) (rv_I (cmul_l (hM _).1 (hM _).2)))
    (ev_op ev_c (ev_op (ev_var rfl) ev_c (rv_ixL (sq_of g2) rfl)) (rv_I (cmul_l (by decide) (by decide)))) rv_I0) (ev_var rfl) ev_c g2 rfl rfl fun H3 m3 g3 => ?_
  have m13 := (m1.ex e2).trans m3
  have m03 := (m1.trans (m1.ex e2)).trans m3
  refine q_when (et_B (ev_op (ev_op (ev_var rfl) ev_c (rv_ixL (sq_of g3) rfl)) ev_c rv_I0)) (fun _ H4 e4 => ?_) (fun _ H4 e4 => ?_)
  · have g4 := e4 _ _ g3
    refine q_asg (ev_op (ev_op (ev_var rfl) ev_c (rv_ixL (sq_of g4) rfl)) (ev_var rfl) (rv_I (by omega))) fun H5 e5 => ?_
    have g5 := e5 _ _ g4
    refine y_setP (k := 1) (j := 1) (ev_op (ev_op (ev_var rfl) ev_c (rv_ixL (sq_of g5) rfl)) (ev_var rfl) (rv_I ⟨by omega, by omega⟩)) (ev_var rfl) ev_c g5 rfl rfl fun H6 m6 g6 => ?_
    have m4 := m03.trans ((m1.trans (m1.ex e2)).trans m3).r
    exact s_ret (ev_var rfl) fun H7 e7 => k _ H7 (((((m1.trans (m1.ex e2)).trans m3).trans ((m03.ex e4).trans ((m03.ex e4).ex e5))).trans m6).trans (m6.ex e7)) (fmod_lt h1).1 (fmod_lt h1).2
  · have g4 := e4 _ _ g3
    exact s_ret (ev_op (ev_op (ev_op (ev_op (ev_var rfl) ev_c (rv_ixL (sq_of g4) rfl)) ev_c (rv_I (by decide))) ev_c (rv_I ⟨by omega, by decide⟩)) (ev_var rfl) (rv_I (by omega))) fun H5 e5 => k _ H5 (m03.trans ((m03.ex e4).trans ((m03.ex e4).ex e5))) (fmod_lt h1).1 (fmod_lt h1).2
-- slots: 0 _law_cell_here
theorem SC__law_purse : FnScope ["_law_cell_here"] ["_law_cell_here"] (defScope (top 65)) := ⟨rfl, rfl, rfl, by decide +kernel, rfl, by decide +kernel, by decide +kernel⟩
theorem cl_law_purse (T : Txt w K mg) : Cl P w K mg base CX0 1 "_law_purse" (sp_law_purse K) := by
  obtain ⟨fd, F, hm⟩ := T.df 29 "_law_purse" 65 rfl
  refine cl0 F hm SC__law_purse (fun vs H Q E h => by obtain ⟨c, rfl, k⟩ := h; rfl) (fun _ _ _ _ _ _ us hl => match us, hl with | [_], _ => rfl) fun cdv A outer s H vs Q E hr h => ?_
  obtain ⟨c, rfl, k⟩ := h
  refine ⟨_, (pss_one (ps_ret (pe_lst (pa_cons (pe_op op_add (pe_op op_mul (pe_op op_modN (pv 0) pe_int) pe_int) pe_int) (pa_cons (pe_ix ix_list (pe_lst (pa_cons pe_int (pa_cons (pv 0) pa_nil))) (pe_callTy call_int1 rfl T.f_int boot_int (pa_cons (pe_cmpR op_ge (pv 0) (pe_op op_pow pe_int pe_int) (nomark _)) pa_nil)) (fun _ _ => rfl)) (pa_cons pe_int pa_nil)))))), ?_⟩
  have hi : ∀ H1, Ex H H1 → Ev (tCB (fun (xs : List V) H (Q : VK) => (∃ i, xs = [V.int i] ∧ Q (V.int i) H) ∨ ∃ k : Bool, xs = [V.bl k] ∧ Q (V.int (if k = true then 1 else 0)) H) (tCons (tOp (rI0 fun i j => V.bl (decide (j ≤ i))) (tVar 0) (tOp (rI CPow fun i j => .int (i ^ j.toNat)) (tC (V.int 10)) (tC (V.int 18)))) tNil)) [some (V.int c)] H1 (.int (if decide ((10 : Int) ^ (18 : Int).toNat ≤ c) = true then 1 else 0)) := fun H1 _ =>
    ev_cb (ea1 (ev_op (ev_var rfl) (ev_op ev_c ev_c (rv_I ⟨by decide, by decide, by decide⟩)) rv_I0)) fun H2 e2 Q q => .inr ⟨_, rfl, q H2 (Ex.refl _)⟩
  refine s_retL (Evl.el_lst (ea_cons (ev_op (ev_op (ev_op (ev_var rfl) ev_c (rv_I (by decide))) ev_c (rv_I (cmul_l (fmod_lt (by decide)).1 (fmod_lt (by decide)).2))) ev_c rv_I0)
    (ea_cons (x := .int (if decide ((10 : Int) ^ (18 : Int).toNat ≤ c) = true then c else 0)) (ev_opL1 (Evl.el_lst (ea2 ev_c (ev_var rfl)) (Nat.le_of_ble_eq_true rfl)) hi fun p H1 hp _ => rv_ixL (sq_of hp) ?_) (ea1 ev_c))) (Nat.le_of_ble_eq_true rfl)) fun p H1 hp e1 h1 => k _ _ _ p H1 hp e1 h1
  cases decide ((10 : Int) ^ (18 : Int).toNat ≤ c) <;> rfl
theorem s_forE {σ : L2.St} {H : Hp} {te : TE} {g : TG} {tu : TS} {D : Ends} (h : te σ H fun v H1 => tFor (iList K (tC v)) g tu D σ H1) : tFor (iList K te) g tu D σ H := h
theorem q_forE {σ : L2.St} {H : Hp} {te : TE} {g : TG} {tu tz : TS} {D : Ends} (h : te σ H fun v H1 => tSeq (tFor (iList K (tC v)) g tu) tz D σ H1) : tSeq (tFor (iList K te) g tu) tz D σ H := h
theorem q_forET {σ : L2.St} {H : Hp} {te : TE} {g : TG} {tu tz : TS} {D : Ends} (h : te σ H fun v H1 => tSeq (tFor (iTup K (tC v)) g tu) tz D σ H1) : tSeq (tFor (iTup K te) g tu) tz D σ H := h
-- slots: 0 _law_script, 1 _law_k, 2 _law_state, 3 _law_cell_here
theorem SC__law_cell : FnScope ["_law_script", "_law_k", "_law_state", "_law_cell_here"] ["_law_script", "_law_k"] (defScope (top 64)) := ⟨rfl, rfl, rfl, by decide +kernel, rfl, by decide +kernel, by decide +kernel⟩
theorem cl_law_cell (T : Txt w K mg) : Cl P w K mg base CX0 1 "_law_cell" (sp_law_cell K) := by
  obtain ⟨fd, F, hm⟩ := T.df 28 "_law_cell" 64 rfl
  refine cl0 F hm SC__law_cell (fun vs H Q E h => by obtain ⟨a, xs, n, rfl, hp, hx, hn, k⟩ := h; rfl) (fun _ _ _ _ _ _ us hl => match us, hl with | [_, _], _ => rfl) fun cdv A outer s H vs Q E hr h => ?_
  obtain ⟨a, xs, n, rfl, hp, hx, hn, k⟩ := h
  refine ⟨_, (pss_cons (ps_if (pt_cmpR op_lt (pv 1) (pe_callB call_len_seq rfl T.f_len boot_len (pa_cons (pv 0) pa_nil)) (nomark _)) (pss_one (ps_ret (pe_ix ix_list (pv 0) (pv 1) (fun _ _ => rfl)))) pss_nil)
      (pss_cons (ps_set (i := 2) SC__law_cell.nd rfl (Or.inl rfl) (pe_op op_modN (pe_op op_mul pe_int (pe_op op_add (pe_op op_add (pe_op op_mul (pv 1) (pv 1)) (pe_op op_mul pe_int (pv 1))) pe_int)) pe_int))
      (pss_cons (ps_for PassesOwn.never rfl (pi_list (pe_slice sl_list (pv 0) po_none (po_some pe_int))) (pg_name (i := 3) SC__law_cell.nd rfl (Or.inl rfl))
        (pss_one (ps_set (i := 2) SC__law_cell.nd rfl (Or.inl rfl) (pe_op op_modN (pe_op op_add (pe_op op_mul (pv 2) pe_int) (pv 3)) pe_int))))
      (pss_one (ps_ret (pv 2)))))), ?_⟩
  have hM : ∀ i : Int, 0 ≤ i.fmod 1000000093 ∧ i.fmod 1000000093 < 1000000093 := fun i => fmod_lt (by decide)
  refine q_when (et_B (ev_op (ev_var rfl) (ev_cb (ea1 (ev_var rfl)) (rc_lenL hp)) rv_I0)) (fun hb H1 e1 => ?_) (fun _ H1 e1 => ?_)
  · have hlt : n < xs.length := by
      have := of_decide_eq_true hb
      rw [List.length_map] at this
      omega
    exact s_ret (ev_op (ev_var rfl) (ev_var rfl) (rv_ixL (ex_l e1 hp) (atI_nat (v := .int xs[n]) (by rw [List.getElem?_map, List.getElem?_eq_getElem hlt]; rfl)))) fun H2 e2 => k _ H2 (e1.trans e2)
  · have h2 : (n : Int) * n ≤ 10000 := by
      have : (n : Int) * n ≤ 100 * 100 := Int.mul_le_mul (by omega) (by omega) (by omega) (by omega)
      omega
    refine q_asg (ev_op (ev_op ev_c (ev_op (ev_op (ev_op (ev_var rfl) (ev_var rfl) (rv_I (cmul_l (by omega) (by omega)))) (ev_op ev_c (ev_var rfl) (rv_I (cmul_l (by decide) (by decide)))) rv_I0) ev_c rv_I0) (rv_I (cmul_l (by decide) (by decide)))) ev_c (rv_I (by decide))) fun H2 e2 => ?_
    refine q_forE (el_sl (K := K) (ev_var rfl) eo_none (eo_some ev_c) (ex_l (e1.trans e2) hp) H2 (Ex.refl _) _ fun p H3 hp3 e3 h3 => ?_)
    refine q_forW walk_list (hwi_list ev_c (sq_of h3)) (fun i σ' H' => Ex H3 H' ∧ ∃ s : Int, ∃ o, 0 ≤ s ∧ s < 1000000093 ∧ σ' = [some (.ref a), some (.int n), some (.int s), o]) (fun H4 e4 => ⟨e4, _, _, (hM _).1, (hM _).2, rfl⟩) (fun i σ' H' _ q => sq_of (q.1 _ _ h3)) (fun i x σ' H4 H5 hi q y => ?_) (fun σ' H' q => ?_)
    · obtain ⟨e4, s, o, s1, s2, rfl⟩ := q
      obtain ⟨rfl, y⟩ := y
      have hc : ∃ c : Int, x = .int c := by
        have hm := List.mem_of_getElem? y
        unfold cutV at hm
        obtain ⟨c, hc, e⟩ := List.mem_map.mp (List.mem_of_mem_drop (List.mem_of_mem_take hm))
        exact ⟨c, e.symm⟩
      obtain ⟨c, rfl⟩ := hc
      exact s_asg (ev_op (ev_op (ev_op (ev_var rfl) ev_c (rv_I (cmul_l s1 s2))) (ev_var rfl) rv_I0) ev_c (rv_I (by decide))) fun H6 e6 => ⟨e4.trans e6, _, _, (hM _).1, (hM _).2, rfl⟩
    · obtain ⟨e4, s, o, s1, s2, rfl⟩ := q
      exact s_ret (ev_var rfl) fun H6 e6 => k _ H6 ((((e1.trans e2).trans e3).trans e4).trans e6)
end
end Pk
set_option Elab.async false
set_option linter.all false
set_option maxRecDepth 100000
set_option maxHeartbeats 4000000
/-! Loose promises: texts, calls with a purse. -/
namespace Pk
open PySem PySem.Spec PyProof.Rows L2 Evl
theorem ok_app {x y : Str} (h : PySem.PyData.strOk x = true) (h2 : PySem.PyData.strOk y = true) : PySem.PyData.strOk (x ++ y) = true := by
  unfold PySem.PyData.strOk at h h2 ⊢
  show (x.cps ++ y.cps).all _ = true
  rw [Array.all_append, h, h2]
  rfl
theorem ok_iff {z : Str} : PySem.PyData.strOk z = true ↔ ∀ c ∈ z.cps.toList, c < 0x110000 := by
  unfold PySem.PyData.strOk
  rw [← Array.all_toList, List.all_eq_true]
  exact ⟨fun h c hc => of_decide_eq_true (h c hc), fun h c hc => decide_eq_true (h c hc)⟩
theorem ok_sign {z : Str} {c : Nat} (h : PySem.PyData.strOk z = true) (hc : c ∈ z.cps.toList) : PySem.PyData.strOk ⟨#[c]⟩ = true := ok_iff.mpr fun d hd => by
  have e : d = c := by simpa using hd
  rw [e]
  exact ok_iff.mp h c hc
theorem ok_join {sep : Str} {l : List Str} (h : PySem.PyData.strOk sep = true) (h2 : ∀ x ∈ l, PySem.PyData.strOk x = true) : PySem.PyData.strOk (Txt.join sep l) = true := ok_iff.mpr fun c hc => by
  rw [tjoin] at hc
  rcases join_sign sep l c hc with hc | ⟨x, hx, hc⟩
  · exact ok_iff.mp h c hc
  · exact ok_iff.mp (h2 x hx) c hc
theorem len_join {sep : Str} {n : Nat} : ∀ {l : List Str}, (∀ x ∈ l, x.length ≤ n) → (Txt.join sep l).length ≤ l.length * (n + sep.length) := by
  intro l
  rw [tjoin]
  induction l with
  | nil => intro _; exact Nat.zero_le _
  | cons x r ih =>
    intro h
    cases r with
    | nil =>
      have := h x (List.mem_singleton.mpr rfl)
      show x.length ≤ 1 * _
      omega
    | cons y r =>
      rw [join_two, len_app, len_app]
      have h1 := ih fun z hz => h z (List.mem_cons_of_mem _ hz)
      have h2 := h x (List.mem_cons_self)
      rw [List.length_cons (a := x), Nat.add_mul]
      omega
theorem sum_le {n : Nat} : ∀ {l : List Str}, (∀ x ∈ l, x.length ≤ n) → (l.map (·.length)).sum ≤ l.length * n := by
  intro l
  induction l with
  | nil => intro _; exact Nat.zero_le _
  | cons x r ih =>
    intro h
    have h1 := ih fun z hz => h z (List.mem_cons_of_mem _ hz)
    have h2 := h x (List.mem_cons_self)
    rw [List.map_cons, List.sum_cons, List.length_cons, Nat.add_mul]
    omega
def spP (es : Option Addr → List TP) (T : Option Addr → TP) : Sp := fun vs H Q _ => ∃ a ws, vs = .ref a :: ws ∧ PuL a H ∧ All2 (es (some a)) ws H ∧ ∀ v H', Mo (some a) H H' → T (some a) v H' → Q v H'
/-- no purse -/
def spN (es : List TP) (T : TP) : Sp := fun vs H Q _ => All2 es vs H ∧ ∀ v H', Mo none H H' → T v H' → Q v H'
theorem mo_refl {a : Addr} {H : Hp} (h : PuL a H) : Mo (some a) H H := ⟨fun b e => by cases e; exact h, fun b e => by cases e; exact h, fun _ _ _ h => h⟩
theorem mo_rn {H : Hp} : Mo none H H := Mo.exN (Ex.refl H)
def tCs : List V → TA
  | [] => tNil
  | v :: l => tCons (tC v) (tCs l)
section
variable {pu : Option Addr} {K : PySem.W.Frag} {σ : L2.St} {H H' : Hp} {ta tb tc te tx : TE} {t u : TT} {x y z v w : V} {D : Ends} {tu tw tz : TS} {g : TG} {T U S T1 T2 : TP} {es : List TP} {tt : TA}
theorem gv_callP {a : Addr} {i : Nat} {es : Option Addr → List TP} {T : Option Addr → TP} {E : XK} (h0 : σ[i]? = some (some (.ref a))) (h : GvA (some a) tt σ H (es (some a))) : Gv (some a) (tCall (spP es T) [] E (tCons (tVar i) tt)) σ H (T (some a)) := fun H1 m Q q =>
  ⟨_, h0, h H1 m _ fun vs H2 m2 t => by
    exact ⟨a, vs, List.append_nil _, m2.p1 a rfl, t, fun v H3 m3 tv => q v H3 (m2.trans m3) tv⟩⟩
theorem gv_callN {T : TP} {E : XK} (h : GvA pu tt σ H es) : Gv pu (tCall (spN es T) [] E tt) σ H T := fun H1 m Q q =>
  h H1 m _ fun vs H2 m2 t => by
    rw [List.append_nil]
    exact ⟨t, fun v H3 m3 tv => q v H3 (m2.trans ((m.trans m2).ex m3.toEx)) tv⟩
theorem gv_pick {a : Addr} {i : Nat} {c d : Int} {E : XK} (h0 : σ[i]? = some (some (.ref a))) (h : Gv (some a) te σ H (Ti c d)) (h1 : 1 ≤ c) (h2 : d ≤ 1000000) : Gv (some a) (tCall (sp_law_pick K) [] E (tCons (tVar i) (tCons te tNil))) σ H (Ti 0 (d - 1)) := fun H1 m Q q =>
  ⟨_, h0, h H1 m _ fun v H2 m2 t => by
    obtain ⟨n, rfl, h3, h4⟩ := t
    exact ⟨a, n, rfl, m2.p1 a rfl, by omega, by omega, fun r H3 m3 r0 r1 => q _ H3 (m2.trans m3) ⟨r, rfl, r0, by omega⟩⟩⟩
theorem gv_pickC {a : Addr} {i : Nat} {d : Int} {E : XK} (h0 : σ[i]? = some (some (.ref a))) (h1 : 1 ≤ d) (h2 : d ≤ 1000000) : Gv (some a) (tCall (sp_law_pick K) [] E (tCons (tVar i) (tCons (tC (.int d)) tNil))) σ H (Ti 0 (d - 1)) := gv_pick h0 gv_int h1 h2
theorem gve_cs {e : TP} : ∀ (l : List V), (∀ v ∈ l, ∀ H, e v H) → GvE pu (tCs l) σ H e l.length := by
  intro l
  induction l with
  | nil => exact fun _ => gve_nil
  | cons a l ih => exact fun h H1 m Q q => ih (fun v hv => h v (List.mem_cons_of_mem _ hv)) H1 m _ fun ys H3 m3 hl t2 => q _ H3 m3 (by rw [List.length_cons, hl]; rfl) fun z hz => by
                    rcases List.mem_cons.mp hz with rfl | hz
                    · exact h _ List.mem_cons_self _
                    · exact t2 z hz
theorem gv_cs {e : TP} {n : Nat} (l : List V) (s : Sb K pu e) (h : ∀ v ∈ l, ∀ H, e v H) (hl : l.length = n) (hn : n ≤ 100) : Gv pu (tLst (tCs l)) σ H (Tl pu e n n) := gv_lst s hn (by rw [← hl]; exact gve_cs l h)
theorem gv_strs {n m : Nat} (l : List Str) (h : l.all (fun z => decide (z.length ≤ m) && PySem.PyData.strOk z) = true) (hl : l.length = n) (hn : n ≤ 100) : Gv pu (tLst (tCs (l.map V.str))) σ H (Tl pu (Tq m) n n) :=
  gv_cs (K := []) _ inferInstance (fun v hv H => by
    obtain ⟨z, hz, rfl⟩ := List.mem_map.mp hv
    have := List.all_eq_true.mp h z hz
    rw [Bool.and_eq_true, decide_eq_true_iff] at this
    exact ⟨z, rfl, this.1, this.2⟩) (by rw [List.length_map]; exact hl) hn
theorem gv_intsL {n : Nat} {a b : Int} (l : List Int) (h : l.all (fun i => decide (a ≤ i) && decide (i ≤ b)) = true) (hl : l.length = n) (hn : n ≤ 100) : Gv pu (tLst (tCs (l.map V.int))) σ H (Tl pu (Ti a b) n n) :=
  gv_cs (K := []) _ inferInstance (fun v hv H => by
    obtain ⟨z, hz, rfl⟩ := List.mem_map.mp hv
    have := List.all_eq_true.mp h z hz
    rw [Bool.and_eq_true, decide_eq_true_iff, decide_eq_true_iff] at this
    exact ⟨z, rfl, this.1, this.2⟩) (by rw [List.length_map]; exact hl) hn
theorem gv_ixS {s : Str} {n : Int} (ha : Gv pu ta σ H (Te (.str s))) (hb : Gv pu tb σ H (Ti 0 n)) (hn : n < s.length) (hl : s.length ≤ 1000000) (hk : PySem.PyData.strOk s = true) : Gv pu (tOp rIxS ta tb) σ H (Tq 1) :=
  gv_op (K := []) inferInstance ha hb fun x y H2 Q m t1 t2 q => by
    cases t1
    obtain ⟨i, rfl, h5, h6⟩ := t2
    obtain ⟨k, rfl⟩ := Int.eq_ofNat_of_zero_le h5
    have hs : s.length = s.cps.toList.length := by show s.cps.size = _; simp
    have hk2 : k < s.cps.toList.length := by omega
    exact ⟨s, k, s.cps.toList[k], rfl, rfl, sz hl, atI_nat (List.getElem?_eq_getElem hk2), q _ H2 m.r ⟨_, rfl, Nat.le_refl 1, ok_sign hk (List.getElem_mem hk2)⟩⟩
theorem gv_adds {n m : Nat} (ha : Gv pu ta σ H (Tq n)) (hb : Gv pu tb σ H (Tq m)) (h : n + m ≤ 1000000) : Gv pu (tOp (fun x y H Q => ∃ i j, x = .str i ∧ y = .str j ∧ i.length + j.length ≤ sizeLine ∧ Q (.str (i ++ j)) H) ta tb) σ H (Tq (n + m)) :=
  gv_op (K := []) inferInstance ha hb fun x y H2 Q m t1 t2 q => by
    obtain ⟨i, rfl, h1, h2⟩ := t1
    obtain ⟨j, rfl, h3, h4⟩ := t2
    exact ⟨i, j, rfl, rfl, sz (by omega), q _ H2 m.r ⟨_, rfl, by rw [len_app]; omega, ok_app h2 h4⟩⟩
theorem strs_of {n : Nat} : ∀ {xs : List V}, (∀ x ∈ xs, Tq n x H) → ∃ ys : List Str, xs = ys.map V.str ∧ ∀ y ∈ ys, y.length ≤ n ∧ PySem.PyData.strOk y = true := by
  intro xs
  induction xs with
  | nil => exact fun _ => ⟨[], rfl, fun y hy => by cases hy⟩
  | cons x xs ih =>
    intro h
    obtain ⟨ys, rfl, h2⟩ := ih fun x hx => h x (List.mem_cons_of_mem _ hx)
    obtain ⟨z, rfl, h3⟩ := h _ List.mem_cons_self
    exact ⟨z :: ys, rfl, fun y hy => by
      rcases List.mem_cons.mp hy with rfl | hy
      · exact h3
      · exact h2 y hy⟩
theorem gv_join {a : Str} {n lo hi : Nat} (hk : PySem.PyData.strOk a = true) (h2 : Gv pu tb σ H (Tl pu (Tq n) lo hi)) (hz : hi * (n + a.length) ≤ 16777216) :
    Gv pu (tM1 (fun x xs H Q => ∃ a p, ∃ ys : List Str, x = .str a ∧ xs = [.ref p] ∧ (SqL K H p (ys.map V.str) ∨ SqT K H p (ys.map V.str)) ∧ (ys.map (·.length)).sum + ys.length * a.length ≤ 16777216 ∧ Q (.str (Txt.join a ys)) H) (tC (.str a)) tb) σ H (Tq (hi * (n + a.length))) := fun H1 m Q q =>
  ⟨⟨a, rfl⟩, h2 H1 m _ fun v H2 m2 t => by
    obtain ⟨p, xs, rfl, _, h3, h4, h5, h6⟩ := t
    obtain ⟨ys, rfl, h7⟩ := strs_of h6
    rw [List.length_map] at h5 h4
    have e1 := sum_le (l := ys) fun x hx => (h7 x hx).1
    have e2 := len_join (sep := a) (l := ys) fun x hx => (h7 x hx).1
    have e3 : ys.length * (n + a.length) ≤ hi * (n + a.length) := Nat.mul_le_mul_right _ h5
    have e4 : ys.length * (n + a.length) = ys.length * n + ys.length * a.length := Nat.mul_add _ _ _
    exact ⟨a, p, ys, rfl, rfl, .inl (sq_of h3), by omega, q _ H2 m2 ⟨_, rfl, by omega, ok_join hk fun x hx => (h7 x hx).2⟩⟩⟩
theorem cutV_mem {xs : List V} {lo hi : Option Int} {x : V} (h : x ∈ cutV xs lo hi) : x ∈ xs := List.mem_of_mem_drop (List.mem_of_mem_take h)
theorem gvo_none : GvO pu tNoPart σ H := fun H1 m Q q => q none H1 m.r
theorem gvo_some {a b : Int} (h : Gv pu te σ H (Ti a b)) : GvO pu (tPart te) σ H := fun H1 m Q q => h H1 m _ fun v H2 m2 t => by
  obtain ⟨i, rfl, _⟩ := t
  exact ⟨i, rfl, q _ H2 m2⟩
theorem gv_slc {tl' th : TO} {e : TP} {lo hi : Nat} (s : Sv K e) (h : Gv pu te σ H (Tl pu e lo hi)) (h1 : GvO pu tl' σ H) (h2 : GvO pu th σ H) : Gv pu (tSl (rSlL K) te tl' th) σ H (Tl pu e 0 hi) := fun H1 m Q q =>
  h H1 m _ fun v H2 m2 t => h1 H2 (m.trans m2) _ fun o1 H3 m3 => h2 H3 ((m.trans m2).trans m3) _ fun o2 H4 m4 => by
    obtain ⟨p, xs, rfl, e1, e2, e3, e4, e5⟩ := (sb_Tl (K := K)).st _ _ _ t (m3.trans m4)
    refine ⟨p, xs, rfl, sq_of e2, fun p' hp => ?_⟩
    have m5 := ((m2.trans m3).trans m4).ex (Ex.new (o := .lst (cutV xs o1 o2)) hp)
    exact q _ _ (((m2.trans m3).trans m4).trans m5) ⟨p', _, rfl, ne_fresh m4 hp, upd_same, Nat.zero_le _, Nat.le_trans (cutV_length _ _ _) e4, fun x hx => s.st _ _ _ (e5 x (cutV_mem hx)) m5.ts⟩
theorem gv_cat {e : TP} {a b c d : Nat} (s : Sv K e) (h1 : Gv pu ta σ H (Tl pu e a b)) (h2 : Gv pu tb σ H (Tl pu e c d)) (hz : b + d ≤ 1000000) : Gv pu (tOp rCat ta tb) σ H (Tl pu e (a + c) (b + d)) :=
  gv_op (sb_Tl (K := K)) h1 h2 fun x y H2 Q m t1 t2 q => by
    obtain ⟨p, xs, rfl, e1, e2, e3, e4, e5⟩ := t1
    obtain ⟨r, ys, rfl, f1, f2, f3, f4, f5⟩ := t2
    refine ⟨p, r, xs, ys, rfl, rfl, e2, f2, sz (by omega), fun p' hp => ?_⟩
    have m5 := m.ex (Ex.new (o := .lst (xs ++ ys)) hp)
    refine q _ _ m5 ⟨p', _, rfl, ne_fresh m hp, upd_same, by rw [List.length_append]; omega, by rw [List.length_append]; omega, fun z hz => ?_⟩
    rcases List.mem_append.mp hz with hz | hz
    · exact s.st _ _ _ (e5 z hz) m5.ts
    · exact s.st _ _ _ (f5 z hz) m5.ts
theorem gv_lw {e e' : TP} {a b c d : Nat} (h : Gv pu te σ H (Tl pu e a b)) (h1 : c ≤ a) (h2 : b ≤ d) (he : ∀ v H, e v H → e' v H) : Gv pu te σ H (Tl pu e' c d) := h.imp fun v _ _ t => by
  obtain ⟨p, xs, rfl, e1, e2, e3, e4, e5⟩ := t
  exact ⟨p, xs, rfl, e1, e2, by omega, by omega, fun x hx => he x _ (e5 x hx)⟩
/-- tuple(a list), tuple(a tuple) -/
theorem gv_tupL {e : TP} {a b : Nat} (s : Sv K e) (h : Gv pu te σ H (Tl pu e a b)) : Gv pu (tCB (rTupOf K) (tCons te tNil)) σ H (Tt K e a b) := fun H1 m Q q =>
  h H1 m _ fun v H2 m2 t => by
    obtain ⟨p, xs, rfl, e1, e2, e3, e4, e5⟩ := t
    refine ⟨p, xs, rfl, .inl ⟨sq_of e2, fun l hl => ?_⟩⟩
    have m5 := (m.trans m2).ex (Ex.new (o := .tup xs) hl)
    exact q _ _ (m2.trans m5) ⟨l, xs, rfl, st_of upd_same, e3, e4, fun x hx => s.st _ _ _ (e5 x hx) m5.ts⟩
theorem gv_lenL {e : TP} {a b : Nat} (h : Gv pu te σ H (Tl pu e a b)) : Gv pu (tCB (fun (xs : List V) H (Q : VK) => ∃ p ys, xs = [.ref p] ∧ (SqL K H p ys ∨ SqT K H p ys) ∧ Q (.int ys.length) H) (tCons te tNil)) σ H (Ti a b) := fun H1 m Q q =>
  h H1 m _ fun v H2 m2 t => by
    obtain ⟨p, xs, rfl, e1, e2, e3, e4, e5⟩ := t
    exact ⟨p, xs, rfl, .inl (sq_of e2), q _ H2 m2 ⟨_, rfl, by omega, by omega⟩⟩
theorem gv_lenT {e : TP} {a b : Nat} (h : Gv pu te σ H (Tt K e a b)) : Gv pu (tCB (fun (xs : List V) H (Q : VK) => ∃ p ys, xs = [.ref p] ∧ (SqL K H p ys ∨ SqT K H p ys) ∧ Q (.int ys.length) H) (tCons te tNil)) σ H (Ti a b) := fun H1 m Q q =>
  h H1 m _ fun v H2 m2 t => by
    obtain ⟨p, xs, rfl, e2, e3, e4, e5⟩ := t
    exact ⟨p, xs, rfl, .inr e2, q _ H2 m2 ⟨_, rfl, by omega, by omega⟩⟩
theorem gv_eqI {a b c d : Int} (ha : Gv pu ta σ H (Ti a b)) (hb : Gv pu tb σ H (Ti c d)) : Gv pu (tOp rEq ta tb) σ H Tb :=
  gv_op (K := []) inferInstance ha hb fun x y H2 Q m t1 t2 q => by
    obtain ⟨i, rfl, _⟩ := t1
    obtain ⟨j, rfl, _⟩ := t2
    exact ⟨rfl, q _ H2 m.r ⟨_, rfl⟩⟩
theorem gv_cmp {f : Int → Int → Bool} {a b c d : Int} (ha : Gv pu ta σ H (Ti a b)) (hb : Gv pu tb σ H (Ti c d)) : Gv pu (tOp (rI0 fun i j => .bl (f i j)) ta tb) σ H Tb := gv_rI0 ha hb fun i j _ _ _ _ _ => ⟨_, rfl⟩
theorem gv_mod {a b c : Int} (ha : Gv pu ta σ H (Ti a b)) (h : 1 ≤ c) : Gv pu (tOp (rI (fun _ j => j ≠ 0) fun i j => .int (i.fmod j)) ta (tC (.int c))) σ H (Ti 0 (c - 1)) :=
  gv_rI ha gv_int (fun i j _ _ _ _ => by omega) fun i j H2 _ _ h3 h4 => by
    have e : j = c := by omega
    subst e
    exact ⟨_, rfl, (fmod_lt h).1, by have := (fmod_lt (i := i) h).2; omega⟩
end
end Pk
set_option Elab.async false
set_option linter.all false
set_option maxRecDepth 100000
set_option maxHeartbeats 4000000
namespace Pk
open PySem PySem.Spec PyProof.Rows L2 Evl
section
variable {P : Program} {w : World} {K : PySem.W.Frag} {mg : Str → Option Value} {base : Heap}
def sp_law_one_word (K : PySem.W.Frag) : Sp := spP (fun _ => []) fun _ => Tq 12
def sp_law_names (K : PySem.W.Frag) : Sp := spP (fun _ => [Te (.int 3)]) fun pu => Tl pu (Tq 7) 3 3
-- slots: 0 _law_purse_here, 1 _law_signs, 2 _law_k
theorem SC__law_one_word : FnScope ["_law_purse_here", "_law_signs", "_law_k"] ["_law_purse_here"] (defScope (top 67)) := ⟨rfl, rfl, rfl, by decide +kernel, rfl, by decide +kernel, by decide +kernel⟩
theorem cl_law_one_word (T : Txt w K mg) : Cl P w K mg base CX0 2 "_law_one_word" (sp_law_one_word K) := by
  obtain ⟨fd, F, hm⟩ := T.df 31 "_law_one_word" 67 rfl
  refine cl0 F hm SC__law_one_word (fun vs H Q E h => by obtain ⟨a, _, rfl, hp, rfl, k⟩ := h; rfl) (fun _ _ _ _ _ _ us hl => match us, hl with | [_], _ => rfl) fun cdv A outer s H vs Q E hr h => ?_
  obtain ⟨a, _, rfl, hp, rfl, k⟩ := h
  refine ⟨_, (pss_cons (ps_if (pt_cmpR op_eq (pc (cl_law_pick T) hr (by decide) rfl (pa_cons (pv 0) (pa_cons pe_int pa_nil))) pe_int (nomark _)) (pss_one (ps_ret (pe_ix ix_list (pe_lst (pa_cons pe_str (pa_cons pe_str (pa_cons pe_str (pa_cons pe_str (pa_cons pe_str (pa_cons pe_str (pa_cons pe_str (pa_cons pe_str (pa_cons pe_str (pa_cons pe_str pa_nil))))))))))) (pc (cl_law_pick T) hr (by decide) rfl (pa_cons (pv 0) (pa_cons pe_int pa_nil))) (fun _ _ => rfl)))) pss_nil)
      (pss_cons (ps_set (i := 1) SC__law_one_word.nd rfl (Or.inr rfl) pe_str)
      (pss_one (ps_ret (pe_join pe_str (pe_lc (own := [("_law_k", 2)]) (g := gName 2) (tt := tYes) rfl SC__law_one_word.nd (pi_range1 rfl T.f_range (pa_cons (pe_op op_add pe_int (pc (cl_law_pick T) hr (by decide) rfl (pa_cons (pv 0) (pa_cons (pe_ix ix_list (pe_lst (pa_cons pe_int (pa_cons pe_int (pa_cons pe_int pa_nil)))) (pc (cl_law_pick T) hr (by decide) rfl (pa_cons (pv 0) (pa_cons pe_int pa_nil))) (fun _ _ => rfl)) pa_nil)))) pa_nil)) (blkOk_by (own := [("_law_k", 2)]) (N := ["_law_purse_here", "_law_signs", "_law_k"]) (sc := defScope (top 67)) (by decide +kernel)) (fun _ _ _ _ _ => (pg_name (i := 2) SC__law_one_word.nd rfl (Or.inl rfl))) (fun _ _ _ _ _ => pts_nil) (fun _ _ _ _ _ => (pe_ix ix_str (pv 1) (pc (cl_law_pick T) hr (by decide) rfl (pa_cons (pv 0) (pa_cons pe_int pa_nil))) (fun _ _ => rfl))))))))), ?_⟩
  have M := mo_refl hp
  refine y_when M (gt_test (gv_eqI (gv_pickC (K := K) rfl (by decide) (by decide)) gv_int)) (fun H1 m1 _ => ?_) (fun H1 m1 _ => ?_)
  · exact y_ret m1.r (gv_ixL inferInstance (gv_strs ["head", "para", "row", "close", "above", "1.2", "Figure", "done", "a", "12"] (m := 12) (by decide +kernel) rfl (by decide)) (gv_pickC (K := K) rfl (by decide) (by decide)) (by decide)) fun v H2 m2 t => k v H2 (m1.trans m2) t
  · refine y_asg m1.r (gv_ev fun _ _ => ev_c) fun v H2 m2 e => ?_
    cases e
    refine y_ret m2.r (gv_join (n := 1) (lo := 1) (hi := 12) (by decide +kernel) ?_ (by decide)) fun v H3 m3 t => k v H3 ((m1.trans m2).trans m3) t
    refine gv_lcR (K := K) (a := 1) (b := 12) (gv_iw (gv_add gv_int (gv_pick (K := K) rfl (gv_ixL inferInstance (gv_intsL [5, 5, 12] (a := 5) (b := 12) (by decide) rfl (by decide)) (gv_pickC (K := K) rfl (by decide) (by decide)) (by decide)) (by decide) (by decide))) (by decide) (by decide)) (by decide) (by decide) inferInstance (fun x => rfl) fun i H0 m0 _ _ => ?_
    exact gv_ixS (gv_e rfl) (gv_pickC (K := K) rfl (by decide) (by decide)) (by decide) (by decide) (by decide +kernel)
-- slots: 0 _law_purse_here, 1 _law_size, 2 _law_some, 3 _law_letters, 4 _law_stem, 5 _law_k, 6 _law_first
theorem SC__law_names : FnScope ["_law_purse_here", "_law_size", "_law_some", "_law_letters", "_law_stem", "_law_k", "_law_first"] ["_law_purse_here", "_law_size"] (defScope (top 68)) := ⟨rfl, rfl, rfl, by decide +kernel, rfl, by decide +kernel, by decide +kernel⟩
theorem cl_law_names (T : Txt w K mg) : Cl P w K mg base CX0 2 "_law_names" (sp_law_names K) := by
  obtain ⟨fd, F, hm⟩ := T.df 32 "_law_names" 68 rfl
  refine cl0 F hm SC__law_names (fun vs H Q E h => by obtain ⟨a, _, rfl, hp, ⟨v, _, rfl, rfl, rfl⟩, k⟩ := h; rfl) (fun _ _ _ _ _ _ us hl => match us, hl with | [_, _], _ => rfl) fun cdv A outer s H vs Q E hr h => ?_
  obtain ⟨a, _, rfl, hp, ⟨v, _, rfl, rfl, rfl⟩, k⟩ := h
  refine ⟨_, (pss_cons (ps_set (i := 2) SC__law_names.nd rfl (Or.inl rfl) (pe_lst (pa_cons pe_str (pa_cons pe_str (pa_cons pe_str (pa_cons pe_str (pa_cons pe_str (pa_cons pe_str (pa_cons pe_str (pa_cons pe_str pa_nil))))))))))
      (pss_cons (ps_if (pt_cmpR op_eq (pc (cl_law_pick T) hr (by decide) rfl (pa_cons (pv 0) (pa_cons pe_int pa_nil))) pe_int (nomark _)) (pss_one (ps_ret (pe_slice sl_list (pv 2) po_none (po_some (pv 1))))) pss_nil)
      (pss_cons (ps_set (i := 3) SC__law_names.nd rfl (Or.inr rfl) pe_str)
      (pss_cons (ps_set (i := 4) SC__law_names.nd rfl (Or.inr rfl) (pe_join pe_str (pe_lc (own := [("_law_k", 5)]) (g := gName 5) (tt := tYes) rfl SC__law_names.nd (pi_range1 rfl T.f_range (pa_cons (pc (cl_law_pick T) hr (by decide) rfl (pa_cons (pv 0) (pa_cons pe_int pa_nil))) pa_nil)) (blkOk_by (own := [("_law_k", 5)]) (N := ["_law_purse_here", "_law_size", "_law_some", "_law_letters", "_law_stem", "_law_k", "_law_first"]) (sc := defScope (top 68)) (by decide +kernel)) (fun _ _ _ _ _ => (pg_name (i := 5) SC__law_names.nd rfl (Or.inl rfl))) (fun _ _ _ _ _ => pts_nil) (fun _ _ _ _ _ => (pe_ix ix_str (pv 3) (pc (cl_law_pick T) hr (by decide) rfl (pa_cons (pv 0) (pa_cons pe_int pa_nil))) (fun _ _ => rfl))))))
      (pss_cons (ps_set (i := 6) SC__law_names.nd rfl (Or.inr rfl) (pc (cl_law_pick T) hr (by decide) rfl (pa_cons (pv 0) (pa_cons pe_int pa_nil))))
      (pss_one (ps_ret (pe_lc (own := [("_law_k", 5)]) (g := gName 5) (tt := tYes) rfl SC__law_names.nd (pi_range1 rfl T.f_range (pa_cons (pv 1) pa_nil)) (blkOk_by (own := [("_law_k", 5)]) (N := ["_law_purse_here", "_law_size", "_law_some", "_law_letters", "_law_stem", "_law_k", "_law_first"]) (sc := defScope (top 68)) (by decide +kernel)) (fun _ _ _ _ _ => (pg_name (i := 5) SC__law_names.nd rfl (Or.inl rfl))) (fun _ _ _ _ _ => pts_nil) (fun _ _ _ _ _ => (pe_op op_add_str (pv 4) (pe_ix ix_str (pv 3) (pe_op op_modN (pe_op op_add (pv 6) (pv 5)) pe_int) (fun _ _ => rfl)))))))))))), ?_⟩
  have M := mo_refl hp
  refine y_asg M (gv_strs (n := 8) ["head", "para", "pages", "index", "when", "main", "row", "done"] (m := 7) (by decide +kernel) rfl (by decide)) fun v H1 m1 t => ?_
  obtain ⟨p, xs, rfl, hn, hx, h1, h2, h3⟩ := t
  refine y_when m1.r (gt_test (gv_eqI (gv_pickC (K := K) rfl (by decide) (by decide)) gv_int)) (fun H2 m2 _ => ?_) (fun H2 m2 _ => ?_)
  · refine s_retL (el_sl (K := K) (ev_var rfl) eo_none (eo_some (ev_var rfl)) (sq_of (m2.ox _ _ hn hx))) fun q H3 hq e3 g3 => ?_
    have m3 := m2.r.ex e3
    have hl : (cutV xs none (some 3)).length = 3 := by
      have : xs.length = 8 := by omega
      unfold cutV
      rw [List.length_take, List.length_drop, this]
      rfl
    exact k _ H3 (((m1.trans m2).trans m3)) ⟨q, _, rfl, ne_fresh m2 hq, g3, Nat.le_of_eq hl.symm, Nat.le_of_eq hl, fun x hx => h3 x (cutV_mem hx)⟩
  · refine y_asg m2.r (gv_ev fun _ _ => ev_c) fun v H3 m3 e => ?_
    cases e
    refine y_asg m3.r (gv_join (n := 1) (lo := 0) (hi := 6) (by decide +kernel) (gv_lcR (K := K) (a := 0) (b := 6) (gv_pickC (K := K) rfl (by decide) (by decide)) (by decide) (by decide) inferInstance (fun x => rfl) fun i H0 m0 _ _ =>
      gv_ixS (gv_e rfl) (gv_pickC (K := K) rfl (by decide) (by decide)) (by decide) (by decide) (by decide +kernel)) (by decide)) fun v H4 m4 t => ?_
    refine y_asg m4.r (gv_pickC (K := K) rfl (by decide) (by decide)) fun v2 H5 m5 t2 => ?_
    refine y_ret m5.r (gv_lcR (K := K) (a := 3) (b := 3) (gv_v (K := K) rfl ⟨3, rfl, by decide, by decide⟩) (by decide) (by decide) inferInstance (fun x => rfl) fun i H0 m0 h0 h1 => ?_) fun v H6 m6 t => k v H6 (((((m1.trans m2).trans m3).trans m4).trans m5).trans m6) t
    have t1 := t
    exact gv_adds (n := 6) (m := 1) (gv_v (K := K) rfl t) (gv_ixS (gv_e rfl) (gv_mod (gv_add (a' := 0) (b' := 3) (gv_v (K := K) rfl t2) (gv_v (K := K) rfl ⟨i, rfl, h0, by omega⟩)) (by decide)) (by decide) (by decide) (by decide +kernel)) (by decide)
end
end Pk
set_option Elab.async false
set_option linter.all false
set_option maxRecDepth 100000
set_option maxHeartbeats 4000000
/-! Loose promises: new lists that are written later. -/
namespace Pk
open PySem PySem.Spec PyProof.Rows L2 Evl
section
variable {pu : Option Addr} {K : PySem.W.Frag} {σ : L2.St} {H H' H1 H2 : Hp} {ta tb tc te tx tv : TE} {t u : TT} {x y z v w : V} {D : Ends} {tu tw tz : TS} {g : TG} {T U S T1 T2 : TP} {es : List TP} {tt : TA} {e : TP} {l : Addr} {o : HO}
theorem Mo.fresh (m : Mo pu H H1) (h : H1 l = none) : H l = none := by
  cases ho : H l with
  | none => rfl
  | some o =>
    by_cases e : pu = some l
    · obtain ⟨x, y, z, h2⟩ := m.p1 l e
      rw [h] at h2
      cases h2
    · rw [m.ox l o e ho] at h
      cases h
theorem mo_upd (m : Mo pu H H1) (hl : H l = none) : Mo pu H (upd H1 l o) := by
  have hpu : pu ≠ some l := fun e => by
    obtain ⟨x, y, z, h⟩ := m.p0 l e
    rw [hl] at h
    cases h
  exact ⟨m.p0, fun a ha => by
    obtain ⟨x, y, z, h⟩ := m.p1 a ha
    exact ⟨x, y, z, by rw [upd_ne (fun e => hpu (by rw [← e]; exact ha))]; exact h⟩, fun b o n h => by
    rw [upd_ne (fun e => by subst e; rw [hl] at h; cases h)]
    exact m.ox b o n h⟩
/-- te gives a new list -/
def GvN (pu : Option Addr) (te : TE) (σ : L2.St) (H : Hp) (e : TP) (lo hi : Nat) : Prop := ∀ H1, Mo pu H H1 → ∀ Q : VK, (∀ p H2 xs, H1 p = none → Mo pu H1 H2 → H2 p = some (.lst xs) → lo ≤ xs.length → xs.length ≤ hi → (∀ x ∈ xs, e x H2) → Q (.ref p) H2) → te σ H1 Q
theorem ne_fr {p : Addr} (m : Mo pu H H1) (hp : H p = none) : pu ≠ some p := fun e => by
  obtain ⟨x, y, z, h⟩ := m.p0 p e
  rw [hp] at h
  cases h
theorem gn_lcR {tn : TE} {j : Nat} {vs : List Nat} {a b : Int} (hn : Gv pu tn σ H (Ti a b)) (h0 : 0 ≤ a) (hb : b ≤ 1000000) (sv : Sv K e) (hw : ∀ x, wipe ((wipe σ vs).set j (some x)) vs = wipe σ vs)
    (he : ∀ (i : Int) H0, Mo pu H H0 → 0 ≤ i → i < b → Gv pu te ((wipe σ vs).set j (some (.int i))) H0 e) : GvN pu (tLc (iRng1 (tCons tn tNil)) (gName j) tYes te vs) σ H e a.toNat b.toNat := fun H1 m Q q =>
  hn H1 m _ fun v H2 m2 tv => by
    obtain ⟨i, rfl, h1, h2⟩ := tv
    refine ⟨i, rfl, by omega, by omega, ?_⟩
    refine gv_lcW (K := K) (pu := pu) walk_range (sz (by omega)) (fun x _ => ∃ k : Int, x = .int k ∧ 0 ≤ k ∧ k < b) sv m2.r (fun _ _ => trivial) (fun k H0 x H' hk _ y => ⟨y.1, _, y.2, by omega, by omega⟩) hw (fun x H0 m0 ha => ?_) (fun x H0 m0 ha => ?_) fun D H3 xs hD m3 h3 h4 h5 h6 => ?_
    · exact fun H1 m Q q => q true H1 m.r trivial
    · obtain ⟨k, rfl, hk, hk2⟩ := ha
      exact he k H0 ((m.trans m2).trans m0) hk hk2
    · exact q D H3 xs (m2.fresh hD) (m2.trans m3) h3 (by rw [h5 rfl]; omega) (by omega) h6
theorem gn_lst {n : Nat} (s : Sb K pu e) (hn : n ≤ 100) (ha : GvE pu tt σ H e n) : GvN pu (tLst tt) σ H e n n := fun H1 m Q q =>
  ha H1 m _ fun vs H2 m2 hl t => ⟨by rw [hl]; exact sz (Nat.le_trans hn (by decide)), fun p hp => by
    have m3 := (m.trans m2).ex (Ex.new (o := .lst vs) hp)
    exact q p _ vs (m2.fresh hp) (m2.trans m3) upd_same (Nat.le_of_eq hl.symm) (Nat.le_of_eq hl) fun x hx => s.st _ _ _ (t x hx) m3⟩
theorem GvN.gv {lo hi : Nat} (h : GvN pu te σ H e lo hi) : Gv pu te σ H (Tl pu e lo hi) := fun H1 m Q q => h H1 m Q fun p H2 xs h1 m2 h2 h3 h4 h5 => q _ H2 m2 ⟨p, xs, rfl, ne_fr m2 h1, h2, h3, h4, h5⟩
theorem y_asgN {i lo hi : Nat} (m : Mo pu H H) (h : GvN pu te σ H e lo hi) (k : ∀ p H1 xs, H p = none → Mo pu H H1 → H1 p = some (.lst xs) → lo ≤ xs.length → xs.length ≤ hi → (∀ x ∈ xs, e x H1) → tz D (σ.set i (some (.ref p))) H1) : tSeq (tAsg te (gName i)) tz D σ H := h H m _ k
theorem ixN_ok {n : Nat} {k : Int} (h0 : 0 ≤ k) (h1 : k < n) : ixN n k = some k.toNat := by
  obtain ⟨j, rfl⟩ := Int.eq_ofNat_of_zero_le h0
  have hj : j < n := by omega
  unfold ixN
  split <;> first | rfl | omega | (simp; omega) | simp
/-- l[k] = .. , and on -/
theorem y_setLG {i j : Nat} {xs : List V} {k : Int} (m : Mo pu H H) (hv : Gv pu tv σ H T) (hi : σ[i]? = some (some (.ref l))) (hj : σ[j]? = some (some (.int k))) (hl : H l = some (.lst xs)) (hp : pu ≠ some l) (h0 : 0 ≤ k) (h1 : k < xs.length)
    (kk : ∀ v H1, Mo pu H H1 → T v H1 → H1 l = some (.lst xs) → D.nx σ (upd H1 l (.lst (xs.set k.toNat v)))) : tAsg tv (gSub (tVar i) (tVar j) rSetL) D σ H := hv H m _ fun v H1 m1 t =>
  ⟨_, hi, _, hj, l, xs, k, k.toNat, rfl, rfl, m1.ox _ _ hp hl, ixN_ok h0 h1, kk v H1 m1 t (m1.ox _ _ hp hl)⟩
/-- l.append(..) -/
theorem y_app {i : Nat} {xs : List V} (m : Mo pu H H) (h : Gv pu te σ H T) (hi : σ[i]? = some (some (.ref l))) (hl : H l = some (.lst xs)) (hp : pu ≠ some l) (hz : xs.length < 1000000)
    (kk : ∀ v H1, Mo pu H H1 → T v H1 → H1 l = some (.lst xs) → D.nx σ (upd H1 l (.lst (xs ++ [v])))) : tDrop (tBM K "list" rAppend (tVar i) (tCons te tNil)) D σ H :=
  ⟨_, hi, Or.inl ⟨rfl, xs, sq_of hl⟩, h H m _ fun v H1 m1 t => ⟨l, xs, v, rfl, rfl, m1.ox _ _ hp hl, szl (Nat.le_of_lt hz), kk v H1 m1 t (m1.ox _ _ hp hl)⟩⟩
theorem q_app {i : Nat} {xs : List V} (m : Mo pu H H) (h : Gv pu te σ H T) (hi : σ[i]? = some (some (.ref l))) (hl : H l = some (.lst xs)) (hp : pu ≠ some l) (hz : xs.length < 1000000)
    (kk : ∀ v H1, Mo pu H H1 → T v H1 → H1 l = some (.lst xs) → tz D σ (upd H1 l (.lst (xs ++ [v])))) : tSeq (tDrop (tBM K "list" rAppend (tVar i) (tCons te tNil))) tz D σ H := y_app (D := { D with nx := tz D }) m h hi hl hp hz kk
/-- the new items of a written list -/
theorem set_all {xs : List V} {k : Nat} {v : V} {e e' : TP} (he : ∀ x ∈ xs, e x H) (hv : e' v H) (h : ∀ x, e x H → e' x H) (s : Sv K e') (hl : H l = some (.lst xs)) : ∀ x ∈ xs.set k v, e' x (upd H l (.lst (xs.set k v))) := fun x hx => by
  refine s.st _ _ _ ?_ (fun b ws q => st_updL hl q)
  rcases List.mem_or_eq_of_mem_set hx with hx | rfl
  · exact h x (he x hx)
  · exact hv
theorem app_all {xs : List V} {v : V} {e e' : TP} (he : ∀ x ∈ xs, e x H) (hv : e' v H) (h : ∀ x, e x H → e' x H) (s : Sv K e') (hl : H l = some (.lst xs)) : ∀ x ∈ xs ++ [v], e' x (upd H l (.lst (xs ++ [v]))) := fun x hx => by
  refine s.st _ _ _ ?_ (fun b ws q => st_updL hl q)
  rcases List.mem_append.mp hx with hx | hx
  · exact h x (he x hx)
  · rw [List.mem_singleton.mp hx]; exact hv
theorem hwi_r1 {n : Int} {tn : TE} (h : Ev tn σ H (.int n)) (h0 : 0 ≤ n) (h1 : n ≤ 1000000) (R : It → Hp → Prop) (k : ∀ H1, Ex H H1 → R (Itr 0 n.toNat) H1) : iRng1 (tCons tn tNil) σ H R := h H (Ex.refl _) _ fun H1 e => ⟨n, rfl, by omega, by omega, k H1 e⟩
/-- a for over a range -/
theorem q_rng {tn : TE} {j : Nat} {n : Int} (h : Ev tn σ H (.int n)) (h0 : 0 ≤ n) (h1 : n ≤ 1000000) (Pv : Nat → L2.St → Hp → Prop) (hz : ∀ H1, Ex H H1 → Pv 0 σ H1)
    (hs : ∀ (i : Nat) σ' H', (i : Int) < n → Pv i σ' H' → tu { D with nx := Pv (i + 1), ct := Pv (i + 1), bk := tz D } (σ'.set j (some (.int i))) H') (hd : ∀ σ' H', Pv n.toNat σ' H' → tz D σ' H') : tSeq (tFor (iRng1 (tCons tn tNil)) (gName j) tu) tz D σ H :=
  q_forW walk_range (hwi_r1 h h0 h1) Pv hz (fun _ _ _ _ _ => trivial) (fun i x σ' H1 H2 hi p y => by
    obtain ⟨rfl, rfl⟩ := y
    have := hs i σ' H2 (by omega) p
    rw [show (i : Int) = 0 + i from (Int.zero_add _).symm] at this
    exact this) hd
theorem y_whenJ (J : Hp → Prop) {R : Bool → Prop} (m : Mo pu H H) (h : GtR pu t σ H R) (h1 : ∀ H1, Mo pu H H1 → R true → (∀ H2, J H2 → tz D σ H2) → tu { D with nx := tz D } σ H1) (h2 : ∀ H1, Mo pu H H1 → R false → J H1) (k : ∀ H2, J H2 → tz D σ H2) : tSeq (tIfS t tu tNext) tz D σ H :=
  y_when m h (fun H1 m1 r => h1 H1 m1 r k) fun H1 m1 r => k H1 (h2 H1 m1 r)
/-- shaped data -/
def DpT (K : PySem.W.Frag) (n : Nat) (T : TP) : Prop := ∀ v H, T v H → ∃ d, Dp K H v d ∧ PyData.canLay0 d = true ∧ PyData.depth d ≤ n
theorem dp_all {n : Nat} : ∀ {xs : List V}, (∀ x ∈ xs, ∃ d, Dp K H x d ∧ PyData.canLay0 d = true ∧ PyData.depth d ≤ n) → ∃ ds, DpAll K H xs ds ∧ PyData.canLayAll0 ds = true ∧ PyData.depthAll ds ≤ n := by
  intro xs
  induction xs with
  | nil => exact fun _ => ⟨[], .nil, rfl, by simp [PyData.depthAll]⟩
  | cons x xs ih =>
    intro h
    obtain ⟨ds, h1, h2, h3⟩ := ih fun y hy => h y (List.mem_cons_of_mem _ hy)
    obtain ⟨d, h4, h5, h6⟩ := h x List.mem_cons_self
    refine ⟨d :: ds, .cons h4 h1, by simp [PyData.canLayAll0, h2, h5], ?_⟩
    simp only [PyData.depthAll]
    omega
theorem dpt_i {a b : Int} {n : Nat} : DpT K n (Ti a b) := fun v H t => by
  obtain ⟨i, rfl, _⟩ := t
  exact ⟨_, .int i, rfl, by simp [PyData.depth]⟩
theorem dpt_b {n : Nat} : DpT K n Tb := fun v H t => by
  obtain ⟨i, rfl⟩ := t
  exact ⟨_, .bl i, rfl, by simp [PyData.depth]⟩
theorem dpt_q {n m : Nat} : DpT K n (Tq m) := fun v H t => by
  obtain ⟨i, rfl, _, h⟩ := t
  exact ⟨_, .str i, h, by simp [PyData.depth]⟩
theorem dpt_u {n : Nat} (h : DpT K n T) (g : DpT K n U) : DpT K n (Tu T U) := fun v H t => t.elim (h v H) (g v H)
theorem dpt_o {n : Nat} (h : DpT K n T) : DpT K n (To T) := fun v H t => t.elim (fun e => by subst e; exact ⟨_, .non, rfl, by simp [PyData.depth]⟩) (h v H)
theorem dpt_l {n lo hi : Nat} (h : DpT K n e) : DpT K (n + 1) (Tl pu e lo hi) := fun v H t => by
  obtain ⟨p, xs, rfl, _, h1, h2, h3, h4⟩ := t
  obtain ⟨ds, h5, h6, h7⟩ := dp_all fun x hx => h x H (h4 x hx)
  refine ⟨_, .lst (sq_of h1) h5, by simp only [PyData.canLay0]; exact h6, ?_⟩
  simp only [PyData.depth]
  omega
theorem dpt_t {n lo hi : Nat} (h : DpT K n e) : DpT K (n + 1) (Tt K e lo hi) := fun v H t => by
  obtain ⟨p, xs, rfl, h1, h2, h3, h4⟩ := t
  obtain ⟨ds, h5, h6, h7⟩ := dp_all fun x hx => h x H (h4 x hx)
  refine ⟨_, .tup h1 h5, by simp only [PyData.canLay0]; exact h6, ?_⟩
  simp only [PyData.depth]
  omega
def DpA (K : PySem.W.Frag) (n : Nat) (es : List TP) : Prop := ∀ vs H, All2 es vs H → ∃ ds, DpAll K H vs ds ∧ PyData.canLayAll0 ds = true ∧ PyData.depthAll ds ≤ n
theorem dpa_nil {n : Nat} : DpA K n [] := fun vs H h => by
  cases h
  exact ⟨[], .nil, rfl, by simp [PyData.depthAll]⟩
theorem dpa_cons {n : Nat} (h : DpT K n e) (g : DpA K n es) : DpA K n (e :: es) := fun vs H t => by
  obtain ⟨v, ws, rfl, t1, t2⟩ := t
  obtain ⟨ds, h1, h2, h3⟩ := g ws H t2
  obtain ⟨d, h4, h5, h6⟩ := h v H t1
  refine ⟨d :: ds, .cons h4 h1, by simp [PyData.canLayAll0, h2, h5], ?_⟩
  simp only [PyData.depthAll]
  omega
theorem dpt_x {n : Nat} (h : DpA K n es) : DpT K (n + 1) (Tx K es) := fun v H t => by
  obtain ⟨p, xs, rfl, h1, h4⟩ := t
  obtain ⟨ds, h5, h6, h7⟩ := h _ H h4
  refine ⟨_, .tup h1 h5, by simp only [PyData.canLay0]; exact h6, ?_⟩
  simp only [PyData.depth]
  omega
theorem shp {d : PyData} {n : Nat} (h : PyData.canLay0 d = true) (h2 : PyData.depth d ≤ n) (hn : n ≤ 64) : SeqAt.shaped d = true := by
  unfold SeqAt.shaped
  rw [h, decide_eq_true (Nat.le_trans h2 hn)]
  rfl
theorem gv_eqD {n m : Nat} (s : Sb K pu T1) (ha : Gv pu ta σ H T1) (hb : Gv pu tb σ H T2) (d1 : DpT K n T1) (d2 : DpT K m T2) (hn : n ≤ 64) (hm : m ≤ 64) : Gv pu (tOp (rEqD K) ta tb) σ H Tb := gv_op s ha hb fun x y H2 Q mo t1 t2 q => by
  obtain ⟨d, h1, h2, h2'⟩ := d1 _ _ t1
  obtain ⟨e, h3, h4, h4'⟩ := d2 _ _ t2
  exact ⟨d, e, h1, h3, shp h2 h2' hn, shp h4 h4' hm, q _ H2 mo.r ⟨_, rfl⟩⟩
theorem gv_neD {n m : Nat} (s : Sb K pu T1) (ha : Gv pu ta σ H T1) (hb : Gv pu tb σ H T2) (d1 : DpT K n T1) (d2 : DpT K m T2) (hn : n ≤ 64) (hm : m ≤ 64) : Gv pu (tOp (rNeD K) ta tb) σ H Tb := gv_op s ha hb fun x y H2 Q mo t1 t2 q => by
  obtain ⟨d, h1, h2, h2'⟩ := d1 _ _ t1
  obtain ⟨e, h3, h4, h4'⟩ := d2 _ _ t2
  exact ⟨d, e, h1, h3, shp h2 h2' hn, shp h4 h4' hm, q _ H2 mo.r ⟨_, rfl⟩⟩
theorem gv_nilL : Gv pu (tLst tNil) σ H (Tl pu e 0 0) := fun H1 m Q q => ⟨Nat.zero_le _, fun p hp => q _ _ (m.r.ex (Ex.new hp)) ⟨p, [], rfl, ne_fresh m hp, upd_same, Nat.le_refl _, Nat.le_refl _, fun x hx => by cases hx⟩⟩
theorem tq_le {n m : Nat} (h : n ≤ m) {v : V} {H : Hp} (t : Tq n v H) : Tq m v H := by
  obtain ⟨z, rfl, h1, h2⟩ := t
  exact ⟨z, rfl, Nat.le_trans h1 h, h2⟩
theorem ti_w {a b c d : Int} (h1 : c ≤ a) (h2 : b ≤ d) {v : V} {H : Hp} (t : Ti a b v H) : Ti c d v H := by
  obtain ⟨z, rfl, h3, h4⟩ := t
  exact ⟨z, rfl, by omega, by omega⟩
theorem cut2 (xs : List V) (o : Option Int) (h : o.isSome = true) : (cutV xs none o).length + (cutV xs o none).length = xs.length := by
  cases o with
  | none => cases h
  | some i =>
    unfold cutV
    rw [List.length_take, List.length_drop, List.length_take, List.length_drop]
    have e1 : HT.sIx xs.length 0 none = 0 := rfl
    have e2 : HT.sIx xs.length xs.length none = xs.length := rfl
    have e3 : HT.sIx xs.length xs.length (some i) = HT.sIx xs.length 0 (some i) := rfl
    rw [e1, e2, e3]
    omega
/-- x[:i] + .. + x[i:] -/
theorem gv_ins {f j : Nat} {p : Addr} {xs : List V} {i : Int} {lo hi n : Nat} (sv : Sv K e) (hf : σ[f]? = some (some (.ref p))) (hj : σ[j]? = some (some (.int i))) (hp : pu ≠ some p) (hx : H p = some (.lst xs)) (he : ∀ x ∈ xs, e x H) (hl : xs.length ≤ n) (hb : Gv pu tb σ H (Tl pu e lo hi)) (hz : n + hi ≤ 1000000) :
    Gv pu (tOp rCat (tOp rCat (tSl (rSlL K) (tVar f) tNoPart (tPart (tVar j))) tb) (tSl (rSlL K) (tVar f) (tPart (tVar j)) tNoPart)) σ H (Tl pu e 0 (n + hi)) := fun H1 m Q q => by
  refine ⟨_, hf, _, hj, i, rfl, p, xs, rfl, sq_of (m.ox _ _ hp hx), fun p1 h1 => ?_⟩
  have m1 := m.r.ex (Ex.new (o := .lst (cutV xs none (some i))) h1)
  refine hb _ (m.trans m1) _ fun v H2 m2 t => ?_
  obtain ⟨p2, ys, rfl, e1, e2, e3, e4, e5⟩ := t
  have g1 := m2.ox _ _ (ne_fresh m h1) (upd_same (H := H1) (a := p1) (o := .lst (cutV xs none (some i))))
  have c := cut2 xs (some i) rfl
  refine ⟨p1, p2, _, ys, rfl, rfl, g1, e2, sz (by omega), fun p3 h3 => ?_⟩
  have m3 := m2.r.ex (Ex.new (o := .lst (cutV xs none (some i) ++ ys)) h3)
  have m13 := (m1.trans m2).trans m3
  refine ⟨_, hf, _, hj, i, rfl, p, xs, rfl, sq_of (m13.ox _ _ hp (m.ox _ _ hp hx)), fun p4 h4 => ?_⟩
  have m4 := m3.r.ex (Ex.new (o := .lst (cutV xs (some i) none)) h4)
  have g3 := m4.ox _ _ (ne_fresh m2 h3) (upd_same (H := H2) (a := p3) (o := .lst (cutV xs none (some i) ++ ys)))
  refine ⟨p3, p4, _, _, rfl, rfl, g3, upd_same, sz (by rw [List.length_append]; omega), fun p5 h5 => ?_⟩
  have m5 := m4.r.ex (Ex.new (o := .lst ((cutV xs none (some i) ++ ys) ++ cutV xs (some i) none)) h5)
  refine q _ _ ((m13.trans m4).trans m5) ⟨p5, _, rfl, ne_fresh m4 h5, upd_same, Nat.zero_le _, by rw [List.length_append, List.length_append]; omega, fun z hz => ?_⟩
  have mall := (m.trans (m13.trans m4)).trans m5
  rcases List.mem_append.mp hz with hz | hz
  · rcases List.mem_append.mp hz with hz | hz
    · exact sv.st _ _ _ (he z (cutV_mem hz)) mall.ts
    · exact sv.st _ _ _ (e5 z hz) ((m3.trans m4).trans m5).ts
  · exact sv.st _ _ _ (he z (cutV_mem hz)) mall.ts
theorem s_asgT {i : Nat} (m : Mo pu H H) (h : Gv pu te σ H T) (k : ∀ v H1, Mo pu H H1 → T v H1 → D.nx (σ.set i (some v)) H1) : tAsg te (gName i) D σ H := h H m _ k
end
end Pk
set_option Elab.async false
set_option linter.all false
set_option maxRecDepth 100000
set_option maxHeartbeats 4000000
namespace Pk
open PySem PySem.Spec PyProof.Rows L2 Evl
section
variable {P : Program} {w : World} {K : PySem.W.Frag} {mg : Str → Option Value} {base : Heap}
def sp_law_tokens (K : PySem.W.Frag) : Sp := spP (fun pu => [Ti 0 6, Tl pu (Tq 7) 0 1, Tl pu (Tq 7) 3 3, Tb]) fun _ => Tt K (Tq 18) 0 7
-- slots: 0 _law_purse_here, 1 _law_upto, 2 _law_marks, 3 _law_refs, 4 _law_bare, 5 _law_found, 6 _law_k, 7 _law_sort, 8 _law_name, 9 _law_at
theorem SC__law_tokens : FnScope ["_law_purse_here", "_law_upto", "_law_marks", "_law_refs", "_law_bare", "_law_found", "_law_k", "_law_sort", "_law_name", "_law_at"] ["_law_purse_here", "_law_upto", "_law_marks", "_law_refs", "_law_bare"] (defScope (top 69)) := ⟨rfl, rfl, rfl, by decide +kernel, rfl, by decide +kernel, by decide +kernel⟩
theorem cl_law_tokens (T : Txt w K mg) : Cl P w K mg base CX0 3 "_law_tokens" (sp_law_tokens K) := by
  obtain ⟨fd, F, hm⟩ := T.df 33 "_law_tokens" 69 rfl
  refine cl0 F hm SC__law_tokens (fun vs H Q E h => by obtain ⟨a, _, rfl, hp, ⟨_, _, rfl, ⟨n, rfl, n0, n1⟩, vm, _, rfl, tm, vr, _, rfl, tr, _, _, rfl, ⟨b, rfl⟩, rfl⟩, k⟩ := h; rfl) (fun _ _ _ _ _ _ us hl => match us, hl with | [_, _, _, _, _], _ => rfl) fun cdv A outer s H vs Q E hr h => ?_
  obtain ⟨a, _, rfl, hp, ⟨_, _, rfl, ⟨n, rfl, n0, n1⟩, vm, _, rfl, tm, vr, _, rfl, tr, _, _, rfl, ⟨b, rfl⟩, rfl⟩, k⟩ := h
  refine ⟨_, (pss_cons (ps_setLc (i := 5) (own := [("_law_k", 6)]) (g := gName 6) (tt := tYes) rfl SC__law_tokens.nd rfl rfl (sw_true rfl rfl rfl (by decide +kernel)) (pi_range1 rfl T.f_range (pa_cons (pc (cl_law_pick T) hr (by decide) rfl (pa_cons (pv 0) (pa_cons (pe_op op_add (pv 1) pe_int) pa_nil))) pa_nil)) (blkOk_by (own := [("_law_k", 6)]) (N := ["_law_purse_here", "_law_upto", "_law_marks", "_law_refs", "_law_bare", "_law_found", "_law_k", "_law_sort", "_law_name", "_law_at"]) (sc := defScope (top 69)) (by decide +kernel)) (fun _ _ _ _ _ => (pg_name (i := 6) SC__law_tokens.nd rfl (Or.inl rfl))) (fun _ _ _ _ _ => pts_nil) (fun _ _ _ _ _ => (pc (cl_law_one_word T) hr (by decide) rfl (pa_cons (pv 0) pa_nil))))
      (pss_cons (ps_for PassesOwn.never rfl (pi_range1 rfl T.f_range (pa_cons (pe_callB call_len_seq rfl T.f_len boot_len (pa_cons (pv 5) pa_nil)) pa_nil)) (pg_name (i := 6) SC__law_tokens.nd rfl (Or.inl rfl))
        (pss_cons (ps_set (i := 7) SC__law_tokens.nd rfl (Or.inl rfl) (pc (cl_law_pick T) hr (by decide) rfl (pa_cons (pv 0) (pa_cons pe_int pa_nil))))
        (pss_cons (ps_if (pt_cmpR op_eq (pv 7) pe_int (nomark _)) (pss_one (ps_asg (pe_op op_add_str pe_str (pe_ix ix_list (pv 5) (pv 6) (fun _ _ => rfl))) (pg_sub (pv 5) (pv 6) set_list))) pss_nil)
        (pss_one (ps_if (PW.pt (pw_and (pt_cmpR op_eq (pv 7) pe_int (nomark _)) (pw_and1 (pt_cmpR (op_neD hr.units) (pv 3) (pe_lst pa_nil) (nomark _))))) (pss_one (ps_asg (pe_op op_add_str (pe_ix ix_list (pe_lst (pa_cons pe_str (pa_cons pe_str (pa_cons pe_str (pa_cons pe_str pa_nil))))) (pc (cl_law_pick T) hr (by decide) rfl (pa_cons (pv 0) (pa_cons (pe_ifExp (pt_val (pv 4)) pe_int pe_int) pa_nil))) (fun _ _ => rfl)) (pe_ix ix_list (pv 3) (pc (cl_law_pick T) hr (by decide) rfl (pa_cons (pv 0) (pa_cons (pe_callB call_len_seq rfl T.f_len boot_len (pa_cons (pv 3) pa_nil)) pa_nil))) (fun _ _ => rfl))) (pg_sub (pv 5) (pv 6) set_list))) pss_nil)))))
      (pss_cons (ps_for PassesOwn.never rfl (pi_list (pv 2)) (pg_name (i := 8) SC__law_tokens.nd rfl (Or.inl rfl))
        (pss_cons (ps_set (i := 9) SC__law_tokens.nd rfl (Or.inl rfl) (pc (cl_law_pick T) hr (by decide) rfl (pa_cons (pv 0) (pa_cons (pe_op op_add (pe_callB call_len_seq rfl T.f_len boot_len (pa_cons (pv 5) pa_nil)) pe_int) pa_nil))))
        (pss_one (ps_set (i := 5) SC__law_tokens.nd rfl (Or.inl rfl) (pe_op op_cat (pe_op op_cat (pe_slice sl_list (pv 5) po_none (po_some (pv 9))) (pe_lst (pa_cons (pe_op op_add_str pe_str (pv 8)) pa_nil))) (pe_slice sl_list (pv 5) (po_some (pv 9)) po_none))))))
      (pss_one (ps_ret (pe_callTy call_tuple_of rfl T.f_tuple boot_tuple (pa_cons (pv 5) pa_nil))))))), ?_⟩
  have M := mo_refl hp
  refine y_asgN M (gn_lcR (K := K) (e := Tq 12) (a := 0) (b := 6) (gv_iw (gv_pick (K := K) rfl (gv_add (a := 0) (b := 6) (gv_v (K := K) rfl ⟨n, rfl, n0, n1⟩) gv_int) (by decide) (by decide)) (by decide) (by decide)) (by decide) (by decide) inferInstance (fun x => rfl) fun i H0 m0 _ _ =>
    gv_callP (es := fun _ => []) (T := fun _ => Tq 12) rfl gva_nil) fun l H1 xs hl m1 g1 x0 x1 hx => ?_
  have hal : some a ≠ some l := ne_fr m1 hl
  refine q_rng (n := xs.length) (ev_cb (ea1 (ev_var rfl)) (rc_lenL (sq_of g1))) (by omega) (by omega) (fun i σ' H' => Mo (some a) H H' ∧ (∃ ys, H' l = some (.lst ys) ∧ ys.length = xs.length ∧ ∀ y ∈ ys, Tq (12 + i) y H') ∧
    ∃ o1 o2, σ' = [some (.ref a), some (.int n), some vm, some vr, some (.bl b), some (.ref l), o1, o2, none, none]) (fun H2 e2 => ⟨m1.trans (m1.ex e2), ⟨xs, e2 _ _ g1, rfl, fun y hy => hx y hy⟩, _, _, rfl⟩) (fun i σ' H2 hi q => ?_) (fun σ' H2 q => ?_)
  · obtain ⟨m2, ⟨ys, g2, y1, hy⟩, o1, o2, rfl⟩ := q
    have M2 := m2.r
    have hi6 : i < 6 := by omega
    have J := fun (H3 : Hp) => Mo (some a) H H3 ∧ ∃ ys, H3 l = some (.lst ys) ∧ ys.length = xs.length ∧ ∀ y ∈ ys, Tq (12 + (i + 1)) y H3
    refine y_asg M2 (gv_pickC (K := K) rfl (by decide) (by decide)) fun s H3 m3 ts => ?_
    have g3 := m3.ox _ _ hal g2
    refine y_whenJ (fun H3 => Mo (some a) H H3 ∧ ∃ ys, H3 l = some (.lst ys) ∧ ys.length = xs.length ∧ ∀ y ∈ ys, Tq (12 + (i + 1)) y H3) m3.r (gt_test (gv_eqI (gv_v (K := K) rfl ts) gv_int)) (fun H4 m4 _ kk => ?_) (fun H4 m4 _ => ?_) (fun H4 q => ?_)
    · have g4 := m4.ox _ _ hal g3
      refine y_setLG (k := i) m4.r (gv_adds (n := 1) (m := 12 + i) (gv_q (by decide) (by decide +kernel)) (gv_ixL (K := K) (lo := xs.length) (hi := xs.length) (n := i) inferInstance (gv_v (K := K) rfl ⟨l, ys, rfl, hal, g4, Nat.le_of_eq y1.symm, Nat.le_of_eq y1, fun y hx => hy y hx⟩) (gv_v (K := K) rfl ⟨_, rfl, by omega, Int.le_refl _⟩) (by omega)) (by omega)) rfl rfl g4 hal (by omega) (by omega) fun v H5 m5 tv g5 => kk _ ⟨mo_upd (((m2.trans m3).trans m4).trans m5) hl, _, upd_same, by rw [List.length_set]; exact y1, ?_⟩
      exact set_all (K := K) (e := Tq (12 + i)) (fun y hx => hy y hx) (tq_le (by omega) tv) (fun y => tq_le (by omega)) inferInstance g5
    · exact ⟨(m2.trans m3).trans m4, ys, m4.ox _ _ hal g3, y1, fun y hx => tq_le (by omega) (hy y hx)⟩
    · obtain ⟨m4, zs, g4, z1, hz⟩ := q
      have vr4 := (sb_Tl (K := K)).st _ _ _ tr m4
      refine y_whenS m4.r (gt_and1 (gt_test (gv_eqI (gv_v (K := K) rfl ts) gv_int)) (gt_test (gv_neD (K := K) (n := 1) (m := 1) inferInstance (gv_v (K := K) rfl vr4) (gv_nilL (e := Tq 0)) (dpt_l dpt_q) (dpt_l dpt_q) (by decide) (by decide)))) (fun H5 m5 _ => ?_) (fun H5 m5 _ => ?_)
      · have g5 := m5.ox _ _ hal g4
        have vr5 := (sb_Tl (K := K)).st _ _ _ vr4 m5
        refine y_setLG (k := i) m5.r (gv_adds (n := 1) (m := 7) (gv_ixL (K := K) inferInstance (gv_strs (n := 4) ["#", "#", "~", "&"] (m := 1) (by decide +kernel) rfl (by decide)) (gv_pick (K := K) (c := 2) (d := 4) rfl (gv_if (gt_test (gv_v (K := K) rfl ⟨b, rfl⟩)) (fun _ => gv_iw gv_int (by decide) (by decide)) (fun _ => gv_iw gv_int (by decide) (by decide))) (by decide) (by decide)) (by decide))
          (gv_ixL (K := K) inferInstance (gv_v (K := K) rfl vr5) (gv_pick (K := K) rfl (gv_lenL (gv_v (K := K) rfl vr5)) (by decide) (by decide)) (by decide)) (by decide)) rfl rfl g5 hal (by omega) (by omega) fun v H6 m6 tv g6 => ⟨mo_upd ((m4.trans m5).trans m6) hl, ⟨_, upd_same, by rw [List.length_set]; exact z1, ?_⟩, _, _, rfl⟩
        exact set_all (K := K) (e := Tq (12 + (i + 1))) (fun y hx => hz y hx) (tq_le (by omega) tv) (fun y => tq_le (by omega)) inferInstance g6
      · exact ⟨m4.trans m5, ⟨zs, m5.ox _ _ hal g4, z1, fun y hx => hz y hx⟩, _, _, rfl⟩
  · obtain ⟨m2, ⟨ys, g2, y1, hy⟩, o1, o2, rfl⟩ := q
    obtain ⟨pm, ms, rfl, nm, gm, lm0, lm1, hms⟩ := (sb_Tl (K := K)).st _ _ _ tm m2
    refine q_forW walk_list (hwi_list (ev_var rfl) (sq_of gm)) (fun i σ' H' => Mo (some a) H2 H' ∧ i ≤ 1 ∧ ∃ vl o1 o2 o3 o4, Tl (some a) (Tq 18) 0 (6 + i) vl H' ∧ σ' = [some (.ref a), some (.int n), some (.ref pm), some vr, some (.bl b), some vl, o1, o2, o3, o4])
      (fun H3 e3 => ⟨m2.r.ex e3, by omega, .ref l, _, _, _, _, ⟨l, ys, rfl, hal, e3 _ _ g2, by omega, by omega, fun y hx => tq_le (by omega) (hy y hx)⟩, rfl⟩) (fun i σ' H' _ q => sq_of (q.1.ox _ _ nm gm)) (fun i x σ' H3 H4 hi q y => ?_) (fun σ' H3 q => ?_)
    · obtain ⟨m3, i1, vl, o1, o2, o3, o4, tl, rfl⟩ := q
      obtain ⟨rfl, y⟩ := y
      have tx : Tq 7 x H2 := hms x (List.mem_of_getElem? y)
      have i0 : i = 0 := by omega
      subst i0
      refine y_asg m3.r (gv_pick (K := K) (c := 1) (d := 7) rfl (gv_iw (gv_add (gv_lenL (gv_v (K := K) rfl tl)) gv_int) (by decide) (by decide)) (by decide) (by decide)) fun v H5 m5 tv => ?_
      obtain ⟨j, rfl, _⟩ := tv
      obtain ⟨pl, zs, rfl, np, gl, _, lz, hz⟩ := (sb_Tl (K := K)).st _ _ _ tl m5
      refine s_asgT m5.r (gv_ins (K := K) (lo := 1) (hi := 1) inferInstance rfl rfl np gl hz lz (gv_lst (K := K) (e := Tq 18) inferInstance (by decide) (gve_cons (K := K) inferInstance (gv_qw (gv_adds (n := 1) (m := 7) (gv_q (by decide) (by decide +kernel)) (gv_v (K := K) rfl tx) (by decide)) (by decide)) gve_nil)) (by decide)) fun v6 H6 m6 tv6 => ?_
      exact ⟨(m3.trans m5).trans m6, by omega, v6, _, _, _, _, tv6, rfl⟩
    · obtain ⟨m3, i1, vl, o1, o2, o3, o4, tl, rfl⟩ := q
      exact y_ret m3.r (gv_tupL (K := K) inferInstance (gv_v (K := K) rfl tl)) fun v H4 m4 t => by
        obtain ⟨p, zs, rfl, t1, t2, t3, t4⟩ := t
        exact k _ H4 ((m2.trans m3).trans m4) ⟨p, zs, rfl, t1, t2, by omega, t4⟩
end
end Pk
set_option Elab.async false
set_option linter.all false
set_option maxRecDepth 100000
set_option maxHeartbeats 4000000
/-! Loose promises: tuples. -/
namespace Pk
open PySem PySem.Spec PyProof.Rows L2 Evl
section
variable {pu : Option Addr} {K : PySem.W.Frag} {σ : L2.St} {H H' H1 H2 : Hp} {ta tb tc te tx tv : TE} {t u : TT} {x y z v w : V} {D : Ends} {tu tw tz : TS} {g : TG} {T U S T1 T2 : TP} {es : List TP} {tt : TA} {e : TP} {l : Addr} {o : HO}
theorem y_par {i j : Nat} (m : Mo pu H H) (h : GvA pu tt σ H [T1, T2]) (k : ∀ v w H1, Mo pu H H1 → T1 v H1 → T2 w H1 → tz D ((σ.set i (some v)).set j (some w)) H1) : tSeq (tPar i j tt) tz D σ H := h H m _ fun vs H1 m1 t => by
  obtain ⟨v, _, rfl, t1, w, _, rfl, t2, rfl⟩ := t
  exact ⟨v, w, rfl, k v w H1 m1 t1 t2⟩
theorem gv_slT {tl' th : TO} {lo hi : Nat} (s : Sv K e) (h : Gv pu te σ H (Tt K e lo hi)) (h1 : GvO pu tl' σ H) (h2 : GvO pu th σ H) : Gv pu (tSl (rSlA K) te tl' th) σ H (Tt K e 0 hi) := fun H1 m Q q =>
  h H1 m _ fun v H2 m2 t => h1 H2 (m.trans m2) _ fun o1 H3 m3 => h2 H3 ((m.trans m2).trans m3) _ fun o2 H4 m4 => by
    obtain ⟨p, xs, rfl, e2, e3, e4, e5⟩ := (sv_Tt (K := K)).st _ _ _ t (m3.trans m4).ts
    refine ⟨p, xs, rfl, e2, fun _ => q _ H4 ((m2.trans m3).trans m4) ⟨p, xs, rfl, e2, Nat.zero_le _, e4, e5⟩, fun _ p' hp => ?_⟩
    have m5 := ((m2.trans m3).trans m4).ex (Ex.new (o := .tup (cutV xs o1 o2)) hp)
    exact q _ _ (((m2.trans m3).trans m4).trans m5) ⟨p', _, rfl, st_of upd_same, Nat.zero_le _, Nat.le_trans (cutV_length _ _ _) e4, fun x hx => s.st _ _ _ (e5 x (cutV_mem hx)) m5.ts⟩
theorem gv_catA {a b c d : Nat} (s : Sv K e) (h1 : Gv pu ta σ H (Tt K e a b)) (h2 : Gv pu tb σ H (Tt K e c d)) (hz : b + d ≤ 1000000) : Gv pu (tOp (rCatA K) ta tb) σ H (Tt K e (a + c) (b + d)) :=
  gv_op (K := K) inferInstance h1 h2 fun x y H2 Q m t1 t2 q => by
    obtain ⟨p, xs, rfl, e2, e3, e4, e5⟩ := t1
    obtain ⟨r, ys, rfl, f2, f3, f4, f5⟩ := t2
    have all : ∀ z ∈ xs ++ ys, e z H2 := fun z hz => (List.mem_append.mp hz).elim (e5 z) (f5 z)
    have len : a + c ≤ (xs ++ ys).length ∧ (xs ++ ys).length ≤ b + d := by rw [List.length_append]; omega
    refine ⟨p, r, xs, ys, rfl, rfl, e2, f2, sz (by omega), fun h => ?_, fun _ h => ?_, fun _ _ l hl => ?_⟩
    · subst h
      exact q _ H2 m.r ⟨r, ys, rfl, f2, len.1, len.2, all⟩
    · subst h
      rw [List.append_nil] at all len
      exact q _ H2 m.r ⟨p, xs, rfl, e2, len.1, len.2, all⟩
    · have m5 := m.ex (Ex.new (o := .tup (xs ++ ys)) hl)
      exact q _ _ m5 ⟨l, _, rfl, st_of upd_same, len.1, len.2, fun z hz => s.st _ _ _ (all z hz) m5.ts⟩
theorem flat_q {n : Nat} (t : Tq n v H) : flatV v = true := by
  obtain ⟨z, rfl, _⟩ := t
  rfl
theorem flat_i {a b : Int} (t : Ti a b v H) : flatV v = true := by
  obtain ⟨z, rfl, _⟩ := t
  rfl
/-- x in a tuple, in a list of flat values -/
theorem gv_inT {neg : Bool} {lo hi : Nat} (s : Sb K pu T1) (h1 : Gv pu ta σ H T1) (h2 : Gv pu tb σ H (Tt K e lo hi)) (f1 : ∀ v H, T1 v H → flatV v = true) (f2 : ∀ v H, e v H → flatV v = true) : Gv pu (tOp (rIn K neg) ta tb) σ H Tb :=
  gv_op s h1 h2 fun x y H2 Q m t1 t2 q => by
    obtain ⟨p, xs, rfl, e2, e3, e4, e5⟩ := t2
    exact rv_inT e2 (f1 _ _ t1) (List.all_eq_true.mpr fun x hx => f2 _ _ (e5 x hx)) H2 (Ex.refl _) Q fun H3 e3 => q _ H3 (m.r.ex e3) ⟨_, rfl⟩
theorem gv_inL {neg : Bool} {lo hi : Nat} (s : Sb K pu T1) (h1 : Gv pu ta σ H T1) (h2 : Gv pu tb σ H (Tl pu e lo hi)) (f1 : ∀ v H, T1 v H → flatV v = true) (f2 : ∀ v H, e v H → flatV v = true) : Gv pu (tOp (rIn K neg) ta tb) σ H Tb :=
  gv_op s h1 h2 fun x y H2 Q m t1 t2 q => by
    obtain ⟨p, xs, rfl, _, e2, e3, e4, e5⟩ := t2
    exact rv_inL (sq_of e2) (f1 _ _ t1) (List.all_eq_true.mpr fun x hx => f2 _ _ (e5 x hx)) H2 (Ex.refl _) Q fun H3 e3 => q _ H3 (m.r.ex e3) ⟨_, rfl⟩
theorem gv_tw {e' : TP} {a b c d : Nat} (h : Gv pu te σ H (Tt K e a b)) (h1 : c ≤ a) (h2 : b ≤ d) (he : ∀ v H, e v H → e' v H) : Gv pu te σ H (Tt K e' c d) := h.imp fun v _ _ t => by
  obtain ⟨p, xs, rfl, e2, e3, e4, e5⟩ := t
  exact ⟨p, xs, rfl, e2, by omega, by omega, fun x hx => he x _ (e5 x hx)⟩
/-- a pair of texts as a tuple of texts -/
theorem gv_pairq {n : Nat} {a b : Str} (ha : a.length ≤ n ∧ PySem.PyData.strOk a = true) (hb : b.length ≤ n ∧ PySem.PyData.strOk b = true) : Gv pu (tTup (tCons (tC (.str a)) (tCons (tC (.str b)) tNil))) σ H (Tt K (Tq n) 2 2) :=
  (gv_tup (K := K) (es := [Tq n, Tq n]) inferInstance (Nat.le_of_ble_eq_true rfl) (gva_cons (K := K) inferInstance (gv_q ha.1 ha.2) (gva_cons (K := K) inferInstance (gv_q hb.1 hb.2) gva_nil))).imp fun v H1 _ t => by
    obtain ⟨p, _, rfl, h, v, _, rfl, t1, w, _, rfl, t2, rfl⟩ := t
    exact ⟨p, _, rfl, h, Nat.le_refl _, Nat.le_refl _, fun x hx => by
      rcases List.mem_cons.mp hx with rfl | hx
      · exact t1
      · rw [List.mem_singleton.mp hx]; exact t2⟩
end
end Pk
set_option Elab.async false
set_option linter.all false
set_option maxRecDepth 100000
set_option maxHeartbeats 4000000
namespace Pk
open PySem PySem.Spec PyProof.Rows L2 Evl
section
variable {P : Program} {w : World} {K : PySem.W.Frag} {mg : Str → Option Value} {base : Heap}
def sp_law_with_note (K : PySem.W.Frag) : Sp := spP (fun pu => [Tt K (Tq 18) 0 7, Tl pu (Tq 7) 3 3]) fun _ => Tt K (Tq 18) 0 25
-- slots: 0 _law_purse_here, 1 _law_tokens_here, 2 _law_refs, 3 _law_at, 4 _law_pair, 5 _law_inside
theorem SC__law_with_note : FnScope ["_law_purse_here", "_law_tokens_here", "_law_refs", "_law_at", "_law_pair", "_law_inside"] ["_law_purse_here", "_law_tokens_here", "_law_refs"] (defScope (top 70)) := ⟨rfl, rfl, rfl, by decide +kernel, rfl, by decide +kernel, by decide +kernel⟩
theorem cl_law_with_note (T : Txt w K mg) : Cl P w K mg base CX0 4 "_law_with_note" (sp_law_with_note K) := by
  obtain ⟨fd, F, hm⟩ := T.df 34 "_law_with_note" 70 rfl
  refine cl0 F hm SC__law_with_note (fun vs H Q E h => by obtain ⟨a, _, rfl, hp, ⟨vt, _, rfl, tt, vr, _, rfl, tr, rfl⟩, k⟩ := h; rfl) (fun _ _ _ _ _ _ us hl => match us, hl with | [_, _, _], _ => rfl) fun cdv A outer s H vs Q E hr h => ?_
  obtain ⟨a, _, rfl, hp, ⟨vt, _, rfl, tt, vr, _, rfl, tr, rfl⟩, k⟩ := h
  refine ⟨_, (pss_cons (ps_par (i := 3) (j := 4) rfl SC__law_with_note.nd rfl rfl (by decide) rfl rfl (pa_cons (pc (cl_law_pick T) hr (by decide) rfl (pa_cons (pv 0) (pa_cons (pe_op op_add (pe_callB call_len_seq rfl T.f_len boot_len (pa_cons (pv 1) pa_nil)) pe_int) pa_nil))) (pa_cons (pe_ix ix_list (pe_lst (pa_cons (pe_tup (pa_cons pe_str (pa_cons pe_str pa_nil))) (pa_cons (pe_tup (pa_cons pe_str (pa_cons pe_str pa_nil))) pa_nil))) (pc (cl_law_pick T) hr (by decide) rfl (pa_cons (pv 0) (pa_cons pe_int pa_nil))) (fun _ _ => rfl)) pa_nil)) (by rfl))
      (pss_cons (ps_set (i := 5) SC__law_with_note.nd rfl (Or.inl rfl) (pc (cl_law_tokens T) hr (by decide) rfl (pa_cons (pv 0) (pa_cons pe_int (pa_cons (pe_lst pa_nil) (pa_cons (pv 2) (pa_cons pe_bl pa_nil)))))))
      (pss_cons (ps_if (PW.pt (pw_or (pt_cmpR op_in_seq pe_str (pv 1) (by rfl)) (pw_or1 (pt_cmpR op_in_seq pe_str (pv 1) (by rfl))))) (pss_one (ps_ret (pv 1))) pss_nil)
      (pss_one (ps_ret (pe_op op_catA (pe_op op_catA (pe_op op_catA (pe_op op_catA (pe_slice sl_tupA (pv 1) po_none (po_some (pv 3))) (pe_slice sl_tupA (pv 4) po_none (po_some pe_int))) (pv 5)) (pe_slice sl_tupA (pv 4) (po_some pe_int) po_none)) (pe_slice sl_tupA (pv 1) (po_some (pv 3)) po_none))))))), ?_⟩
  have M := mo_refl hp
  refine y_par (T1 := Ti 0 7) (T2 := Tt K (Tq 18) 2 2) M (gva_cons (K := K) inferInstance (gv_iw (gv_pick (K := K) (c := 1) (d := 8) rfl (gv_iw (gv_add (gv_lenT (K := K) (gv_v (K := K) rfl tt)) gv_int) (by decide) (by decide)) (by decide) (by decide)) (by decide) (by decide))
    (gva_cons (K := K) inferInstance (gv_ixL (K := K) (lo := 2) (hi := 2) inferInstance (gv_lst (K := K) inferInstance (by decide) (gve_cons (K := K) inferInstance (gv_pairq (by decide +kernel) (by decide +kernel)) (gve_cons (K := K) inferInstance (gv_pairq (by decide +kernel) (by decide +kernel)) gve_nil))) (gv_pickC (K := K) rfl (by decide) (by decide)) (by decide)) gva_nil)) fun v wv H1 m1 t1 t2 => ?_
  refine y_asg m1.r (gv_callP (es := fun pu => [Ti 0 6, Tl pu (Tq 7) 0 1, Tl pu (Tq 7) 3 3, Tb]) (T := fun _ => Tt K (Tq 18) 0 7) rfl (gva_cons (K := K) inferInstance (gv_iw gv_int (by decide) (by decide)) (gva_cons (K := K) inferInstance (gv_lw (gv_nilL (e := Tq 7)) (by decide) (by decide) fun _ _ h => h)
    (gva_cons (K := K) inferInstance (gv_v (K := K) rfl ((sb_Tl (K := K)).st _ _ _ tr m1)) (gva_cons (K := K) inferInstance (gv_c fun _ => ⟨_, rfl⟩) gva_nil))))) fun v3 H2 m2 t3 => ?_
  have tt2 := (sv_Tt (K := K)).st _ _ _ tt (m1.trans m2).ts
  have t22 := (sv_Tt (K := K)).st _ _ _ t2 m2.ts
  have hin : ∀ {H3 : Hp} {z : Str}, PySem.PyData.strOk z = true → Mo (some a) H2 H3 → Gv (some a) (tOp (rIn K false) (tC (.str z)) (tVar 1)) [some (.ref a), some vt, some vr, some v, some wv, some v3] H3 Tb := fun {H3 z} hz m3 =>
    gv_inT (K := K) (T1 := Tq z.length) inferInstance (gv_q (Nat.le_refl _) hz) (gv_v (K := K) rfl ((sv_Tt (K := K)).st _ _ _ tt2 m3.ts)) (fun _ _ => flat_q) fun _ _ => flat_q
  refine y_when m2.r (gt_or1 (gt_test (hin (by decide +kernel) m2.r)) (gt_test (hin (by decide +kernel) m2.r))) (fun H3 m3 _ => ?_) (fun H3 m3 _ => ?_)
  · exact y_ret m3.r (gv_tw (K := K) (gv_v (K := K) rfl ((sv_Tt (K := K)).st _ _ _ tt2 m3.ts)) (by decide) (by decide) fun _ _ h => h) fun v H4 m4 t => k v H4 (((m1.trans m2).trans m3).trans m4) t
  · have tt3 := (sv_Tt (K := K)).st _ _ _ tt2 m3.ts
    have t23 := (sv_Tt (K := K)).st _ _ _ t22 m3.ts
    have t33 := (sv_Tt (K := K)).st _ _ _ t3 m3.ts
    exact y_ret m3.r (gv_tw (K := K) (gv_catA (K := K) inferInstance (gv_catA (K := K) inferInstance (gv_catA (K := K) inferInstance (gv_catA (K := K) inferInstance (gv_slT (K := K) inferInstance (gv_v (K := K) rfl tt3) gvo_none (gvo_some (gv_v (K := K) rfl t1))) (gv_slT (K := K) inferInstance (gv_v (K := K) rfl t23) gvo_none (gvo_some gv_int)) (by decide))
      (gv_v (K := K) rfl t33) (by decide)) (gv_slT (K := K) inferInstance (gv_v (K := K) rfl t23) (gvo_some gv_int) gvo_none) (by decide)) (gv_slT (K := K) inferInstance (gv_v (K := K) rfl tt3) (gvo_some (gv_v (K := K) rfl t1)) gvo_none) (by decide)) (by decide) (by decide) fun _ _ h => h) fun v H4 m4 t => k v H4 (((m1.trans m2).trans m3).trans m4) t
end
end Pk
set_option Elab.async false
set_option linter.all false
set_option maxRecDepth 100000
set_option maxHeartbeats 4000000
/-! Loose promises: rows. -/
namespace Pk
open PySem PySem.Spec PyProof.Rows L2 Evl
inductive Pc
  | i (lo hi : Int)
  | q
  | t
  deriving DecidableEq
def Tkk (K : PySem.W.Frag) : TP := Tt K (Tq 18) 0 25
def Tflat : TP := Tu (Ti 0 9) (Tq 12)
def Tpart (K : PySem.W.Frag) : TP := Tu (Ti 0 9) (Tu (Tq 12) (Tkk K))
def pcT (K : PySem.W.Frag) : Pc → TP
  | .i lo hi => Ti lo hi
  | .q => Tq 12
  | .t => Tkk K
def Rsh (w : Str) (ps : List V) : Prop := (w = "counter" → ∃ c y i, ps = [.str c, .str y, .int i] ∧ 0 ≤ i ∧ i ≤ 9) ∧ (w = "cell" → ∃ d ac t, ps = [.int d, .int ac, t] ∧ 1 ≤ d ∧ d ≤ 4 ∧ 1 ≤ ac ∧ ac ≤ 4) ∧ (w = "table" → ∃ c t, ps = [.int c, t] ∧ 1 ≤ c ∧ c ≤ 4) ∧ (w = "style" → ps ≠ [])
/-- a row of the generator -/
def Trow (K : PySem.W.Frag) : TP := fun v H => ∃ p w ps, v = .ref p ∧ SqT K H p (.str w :: ps) ∧ w.length ≤ 12 ∧ PySem.PyData.strOk w = true ∧ ps.length ≤ 5 ∧ (∀ i x, ps[i]? = some x → (i + 1 < ps.length → Tflat x H) ∧ Tpart K x H) ∧ Rsh w ps
def pcOk : Pc → Bool
  | .i lo hi => decide (0 ≤ lo) && decide (hi ≤ 9)
  | _ => true
def rowOk (w : Str) (cs : List Pc) : Bool := decide (w.length ≤ 12) && PySem.PyData.strOk w && decide (cs.length ≤ 5) && cs.all pcOk && cs.dropLast.all (fun c => !decide (c = .t)) &&
  (!decide (w = "counter") || decide (cs = [.q, .q, .i 0 9])) && (!decide (w = "cell") || decide (cs = [.i 1 4, .i 1 4, .t])) && (!decide (w = "table") || decide (cs = [.i 1 4, .t])) && (!decide (w = "style") || decide (cs ≠ []))
section
variable {pu : Option Addr} {K : PySem.W.Frag} {σ : L2.St} {H H' H1 H2 : Hp} {ta tb tc te tx tv : TE} {t u : TT} {x y z v : V} {D : Ends} {tu tw tz : TS} {g : TG} {T U S T1 T2 : TP} {es : List TP} {tt : TA} {e : TP} {l : Addr} {o : HO}
instance sv_Tkk : Sv K (Tkk K) := inferInstanceAs (Sv K (Tt K (Tq 18) 0 25))
instance sv_Tflat : Sv K Tflat := inferInstanceAs (Sv K (Tu (Ti 0 9) (Tq 12)))
instance sv_Tpart : Sv K (Tpart K) := inferInstanceAs (Sv K (Tu (Ti 0 9) (Tu (Tq 12) (Tkk K))))
instance sv_Trow : Sv K (Trow K) := ⟨fun v H H' t m => by
  obtain ⟨p, w, ps, rfl, h1, h2, h3, h4, h5, h6⟩ := t
  exact ⟨p, w, ps, rfl, m _ _ h1, h2, h3, h4, fun i x hx => ⟨fun hi => sv_Tflat.st _ _ _ ((h5 i x hx).1 hi) m, sv_Tpart.st _ _ _ (h5 i x hx).2 m⟩, h6⟩⟩
instance sv_pcT {c : Pc} : Sv K (pcT K c) := by
  cases c with
  | i lo hi => exact sv_Ti
  | q => exact sv_Tq
  | t => exact sv_Tkk
theorem sva_pcs : ∀ (cs : List Pc), SvA K (cs.map (pcT K))
  | [] => sva_nil
  | c :: cs => by
    have := sva_pcs cs
    exact sva_cons
theorem pc_part {c : Pc} (h : pcOk c = true) (t : pcT K c v H) : Tpart K v H ∧ (c ≠ .t → Tflat v H) := by
  cases c with
  | i lo hi =>
    unfold pcOk at h
    rw [Bool.and_eq_true, decide_eq_true_iff, decide_eq_true_iff] at h
    exact ⟨.inl (ti_w h.1 h.2 t), fun _ => .inl (ti_w h.1 h.2 t)⟩
  | q => exact ⟨.inr (.inl t), fun _ => .inr t⟩
  | t => exact ⟨.inr (.inr t), fun e => absurd rfl e⟩
theorem all2_at : ∀ {cs : List Pc} {vs : List V}, All2 (cs.map (pcT K)) vs H → vs.length = cs.length ∧ ∀ (i : Nat) (x : V), vs[i]? = some x → ∃ c, cs[i]? = some c ∧ pcT K c x H := by
  intro cs
  induction cs with
  | nil => intro vs h; cases h; exact ⟨rfl, fun i x hx => by cases hx⟩
  | cons c cs ih =>
    intro vs h
    obtain ⟨v, ws, rfl, h1, h2⟩ := h
    obtain ⟨h3, h4⟩ := ih h2
    refine ⟨by rw [List.length_cons, List.length_cons, h3], fun i x hx => ?_⟩
    cases i with
    | zero => cases hx; exact ⟨c, rfl, h1⟩
    | succ i => exact h4 i x hx
theorem trow_of {w : Str} {cs : List Pc} {p : Addr} {vs : List V} (hc : rowOk w cs = true) (hp : SqT K H p (.str w :: vs)) (h : All2 (cs.map (pcT K)) vs H) : Trow K (.ref p) H := by
  unfold rowOk at hc
  simp only [Bool.and_eq_true, decide_eq_true_iff] at hc
  obtain ⟨⟨⟨⟨⟨⟨⟨⟨c1, c2⟩, c3⟩, c4⟩, c5⟩, c6⟩, c7⟩, c8⟩, c9⟩ := hc
  obtain ⟨hl, ha⟩ := all2_at h
  refine ⟨p, w, vs, rfl, hp, c1, c2, by omega, fun i x hx => ?_, ?_, ?_, ?_, ?_⟩
  · obtain ⟨c, hc, tc⟩ := ha i x hx
    have hok := List.all_eq_true.mp c4 c (List.mem_of_getElem? hc)
    obtain ⟨p1, p2⟩ := pc_part hok tc
    refine ⟨fun hi => p2 fun e => ?_, p1⟩
    have hm : c ∈ cs.dropLast := by
      refine List.mem_of_getElem? (i := i) ?_
      rw [List.getElem?_dropLast, if_pos (by omega)]
      exact hc
    have := List.all_eq_true.mp c5 c hm
    rw [e] at this
    cases this
  · intro e
    subst e
    have e2 : cs = [.q, .q, .i 0 9] := by simpa using c6
    subst e2
    obtain ⟨_, _, rfl, ⟨i, rfl, _⟩, _, _, rfl, ⟨j, rfl, _⟩, _, _, rfl, ⟨k, rfl, k0, k1⟩, rfl⟩ := h
    exact ⟨i, j, k, rfl, k0, k1⟩
  · intro e
    subst e
    have e2 : cs = [.i 1 4, .i 1 4, .t] := by simpa using c7
    subst e2
    obtain ⟨_, _, rfl, ⟨i, rfl, i1, i2⟩, _, _, rfl, ⟨j, rfl, j1, j2⟩, z, _, rfl, tz, rfl⟩ := h
    exact ⟨i, j, z, rfl, i1, i2, j1, j2⟩
  · intro e
    subst e
    have e2 : cs = [.i 1 4, .t] := by simpa using c8
    subst e2
    obtain ⟨_, _, rfl, ⟨i, rfl, i1, i2⟩, z, _, rfl, tz, rfl⟩ := h
    exact ⟨i, z, rfl, i1, i2⟩
  · intro e e2
    subst e
    have e3 : cs ≠ [] := by simpa using c9
    subst e2
    exact e3 (List.eq_nil_of_length_eq_zero hl.symm)
theorem gv_row (w : Str) (cs : List Pc) (hc : rowOk w cs = true) (hl : (Te (.str w) :: cs.map (pcT K)).length ≤ 100) (h : GvA pu tt σ H (cs.map (pcT K))) : Gv pu (tTup (tCons (tC (.str w)) tt)) σ H (Trow K) :=
  (gv_tup (K := K) (by
    have := sva_pcs (K := K) cs
    exact ⟨fun vs H H' t m => (sva_cons (K := K) (e := Te (.str w)) (es := cs.map (pcT K))).st vs H H' t m.ts⟩) hl (gva_cons (K := K) inferInstance (gv_c fun _ => rfl) h)).imp fun v H1 _ t => by
    obtain ⟨p, _, rfl, hp, _, vs, rfl, rfl, h2⟩ := t
    exact trow_of hc hp h2
end
end Pk
set_option Elab.async false
set_option linter.all false
set_option maxRecDepth 100000
set_option maxHeartbeats 4000000
namespace Pk
open PySem PySem.Spec PyProof.Rows L2 Evl
section
variable {pu : Option Addr} {K : PySem.W.Frag} {σ : L2.St} {H H' H1 H2 : Hp} {ta tb tc te tx tv : TE} {t u : TT} {x y z v : V} {D : Ends} {tu tw tz : TS} {g : TG} {T U S T1 T2 : TP} {es : List TP} {tt : TA} {e : TP} {l : Addr} {o : HO}
theorem y_parN {i j a b c d : Nat} {e1 e2 : TP} (s : Sv K e1) (m : Mo pu H H) (h1 : GvN pu ta σ H e1 a b) (h2 : GvN pu tb σ H e2 c d) (k : ∀ p q H1 xs ys, H p = none → H q = none → p ≠ q → Mo pu H H1 → H1 p = some (.lst xs) → H1 q = some (.lst ys) → a ≤ xs.length → xs.length ≤ b → ys.length ≤ d → (∀ x ∈ xs, e1 x H1) → (∀ y ∈ ys, e2 y H1) → tz D ((σ.set i (some (.ref p))).set j (some (.ref q))) H1) :
    tSeq (tPar i j (tCons ta (tCons tb tNil))) tz D σ H := by
  have : tPar i j (tCons ta (tCons tb tNil)) { D with nx := tz D } σ H := by
    show tCons ta (tCons tb tNil) σ H _
    refine h1 H m _ fun p H1 xs hp m1 g1 x0 x1 hx => ?_
    refine h2 H1 m1 _ fun q H2 ys hq m2 g2 _ y1 hy => ?_
    have hpq : p ≠ q := fun e => by
      subst e
      rw [g1] at hq
      cases hq
    exact ⟨_, _, rfl, k p q H2 xs ys hp (m1.fresh hq) hpq (m1.trans m2) (m2.ox _ _ (ne_fr m1 hp) g1) g2 x0 x1 y1 (fun x h => s.st _ _ _ (hx x h) m2.ts) hy⟩
  exact this
theorem gv_inD {n m lo hi : Nat} (s : Sb K pu T1) (ha : Gv pu ta σ H T1) (hb : Gv pu tb σ H (Tl pu e lo hi)) (d1 : DpT K n T1) (d2 : DpT K m e) (hn : n ≤ 60) (hm : m ≤ 60) : Gv pu (tOp (rInD K) ta tb) σ H Tb := gv_op s ha hb fun x y H2 Q mo t1 t2 q => by
  obtain ⟨d, h1, h2, h2'⟩ := d1 _ _ t1
  obtain ⟨p, xs, rfl, _, e1, e2, e3, e4⟩ := t2
  obtain ⟨ds, h5, h6, h7⟩ := dp_all fun x hx => d2 x _ (e4 x hx)
  exact ⟨d, ds, h1, .lst (sq_of e1) h5, shp h2 h2' (by omega), shp (n := m + 1) (by simp only [PyData.canLay0]; exact h6) (by simp only [PyData.depth]; omega) (by omega), q _ H2 mo.r ⟨_, rfl⟩⟩
theorem gv_niD {n m lo hi : Nat} (s : Sb K pu T1) (ha : Gv pu ta σ H T1) (hb : Gv pu tb σ H (Tl pu e lo hi)) (d1 : DpT K n T1) (d2 : DpT K m e) (hn : n ≤ 60) (hm : m ≤ 60) : Gv pu (tOp (rNotInD K) ta tb) σ H Tb := gv_op s ha hb fun x y H2 Q mo t1 t2 q => by
  obtain ⟨d, h1, h2, h2'⟩ := d1 _ _ t1
  obtain ⟨p, xs, rfl, _, e1, e2, e3, e4⟩ := t2
  obtain ⟨ds, h5, h6, h7⟩ := dp_all fun x hx => d2 x _ (e4 x hx)
  exact ⟨d, ds, h1, .lst (sq_of e1) h5, shp h2 h2' (by omega), shp (n := m + 1) (by simp only [PyData.canLay0]; exact h6) (by simp only [PyData.depth]; omega) (by omega), q _ H2 mo.r ⟨_, rfl⟩⟩
theorem gv_A {a b : Int} (h : Gv pu te σ H (Ti a b)) : Gv pu te σ H TiA := h.imp fun v _ _ t => by
  obtain ⟨i, rfl, _⟩ := t
  exact ⟨i, rfl⟩
theorem gv_addA (h1 : Gv pu ta σ H TiA) (h2 : Gv pu tb σ H TiA) : Gv pu (tOp (rI0 fun i j => .int (i + j)) ta tb) σ H TiA := gv_op (K := []) inferInstance h1 h2 fun x y H2 Q m t1 t2 q => by
  obtain ⟨i, rfl⟩ := t1
  obtain ⟨j, rfl⟩ := t2
  exact ⟨i, j, rfl, rfl, q _ H2 m.r ⟨_, rfl⟩⟩
theorem gv_divA {a b : Int} (h1 : Gv pu ta σ H TiA) (h2 : Gv pu tb σ H (Ti a b)) (ha : 1 ≤ a) (hb : b ≤ 1000) : Gv pu (tOp (rI CDivN fun i j => .int (i.fdiv j)) ta tb) σ H TiA := gv_op (K := []) inferInstance h1 h2 fun x y H2 Q m t1 t2 q => by
  obtain ⟨i, rfl⟩ := t1
  obtain ⟨j, rfl, j1, j2⟩ := t2
  exact ⟨i, j, rfl, rfl, ⟨by omega, by omega⟩, q _ H2 m.r ⟨_, rfl⟩⟩
theorem gv_modA {a b : Int} (h1 : Gv pu ta σ H TiA) (h2 : Gv pu tb σ H (Ti a b)) (ha : 1 ≤ a) : Gv pu (tOp (rI (fun _ j => j ≠ 0) fun i j => .int (i.fmod j)) ta tb) σ H TiA := gv_op (K := []) inferInstance h1 h2 fun x y H2 Q m t1 t2 q => by
  obtain ⟨i, rfl⟩ := t1
  obtain ⟨j, rfl, j1, j2⟩ := t2
  exact ⟨i, j, rfl, rfl, by omega, q _ H2 m.r ⟨_, rfl⟩⟩
theorem dpt_A {n : Nat} : DpT K n TiA := fun v H t => by
  obtain ⟨i, rfl⟩ := t
  exact ⟨_, .int i, rfl, by simp [PyData.depth]⟩
/-- a place of a table -/
def Tpl (K : PySem.W.Frag) : TP := Tx K [TiA, TiA]
instance sv_Tpl : Sv K (Tpl K) := inferInstanceAs (Sv K (Tx K [TiA, TiA]))
theorem dpt_pl : DpT K 1 (Tpl K) := dpt_x (dpa_cons dpt_A (dpa_cons dpt_A dpa_nil))
theorem gv_pl (h1 : Gv pu ta σ H TiA) (h2 : Gv pu tb σ H TiA) : Gv pu (tTup (tCons ta (tCons tb tNil))) σ H (Tpl K) := gv_tup (K := K) (es := [TiA, TiA]) inferInstance (Nat.le_of_ble_eq_true rfl) (gva_cons (K := K) inferInstance h1 (gva_cons (K := K) inferInstance h2 gva_nil))
theorem s_rng {tn : TE} {j : Nat} {n : Int} (h : Ev tn σ H (.int n)) (h0 : 0 ≤ n) (h1 : n ≤ 1000000) (Pv : Nat → L2.St → Hp → Prop) (hz : ∀ H1, Ex H H1 → Pv 0 σ H1)
    (hs : ∀ (i : Nat) σ' H', (i : Int) < n → Pv i σ' H' → tu { D with nx := Pv (i + 1), ct := Pv (i + 1), bk := D.nx } (σ'.set j (some (.int i))) H') (hd : ∀ σ' H', Pv n.toNat σ' H' → D.nx σ' H') : tFor (iRng1 (tCons tn tNil)) (gName j) tu D σ H :=
  s_forW walk_range (hwi_r1 h h0 h1) Pv hz (fun _ _ _ _ _ => trivial) (fun i x σ' H1 H2 hi p y => by
    obtain ⟨rfl, rfl⟩ := y
    have := hs i σ' H2 (by omega) p
    rw [show (i : Int) = 0 + i from (Int.zero_add _).symm] at this
    exact this) hd
theorem y_ifS {R : Bool → Prop} (m : Mo pu H H) (h : GtR pu t σ H R) (h1 : ∀ H1, Mo pu H H1 → R true → tu D σ H1) (h2 : ∀ H1, Mo pu H H1 → R false → tw D σ H1) : tIfS t tu tw D σ H := h H m _ fun b H1 m1 r => by
  cases b with
  | true => exact h1 H1 m1 r
  | false => exact h2 H1 m1 r
theorem y_whenX (J : L2.St → Hp → Prop) {R : Bool → Prop} (m : Mo pu H H) (h : GtR pu t σ H R) (h1 : ∀ H1, Mo pu H H1 → R true → (∀ σ2 H2, J σ2 H2 → tz D σ2 H2) → tu { D with nx := tz D } σ H1) (h2 : ∀ H1, Mo pu H H1 → R false → J σ H1) (k : ∀ σ2 H2, J σ2 H2 → tz D σ2 H2) : tSeq (tIfS t tu tNext) tz D σ H :=
  y_when m h (fun H1 m1 r => h1 H1 m1 r k) fun H1 m1 r => k σ H1 (h2 H1 m1 r)
theorem y_asg2 {i j : Nat} (m : Mo pu H H) (h : GvA pu tt σ H [T1, T2]) (s1 : Sv K T1) (s2 : Sv K T2) (k : ∀ v w H1, Mo pu H H1 → T1 v H1 → T2 w H1 → tz D ((σ.set i (some v)).set j (some w)) H1) : tSeq (tAsg (tTup tt) (gTup K 2 (gCons (gName i) (gCons (gName j) gNil)))) tz D σ H := h H m _ fun vs H1 m1 t => by
  obtain ⟨v, _, rfl, t1, w, _, rfl, t2, rfl⟩ := t
  exact ⟨by show 2 ≤ sizeLine; decide, fun p hp => sq_g_pair (st_of upd_same) (k v w _ (m1.trans (m1.r.ex (Ex.new hp))) (s1.st _ _ _ t1 (m1.r.ex (Ex.new hp)).ts) (s2.st _ _ _ t2 (m1.r.ex (Ex.new hp)).ts))⟩
end
end Pk
set_option Elab.async false
set_option linter.all false
set_option maxRecDepth 100000
set_option maxHeartbeats 4000000
namespace Pk
open PySem PySem.Spec PyProof.Rows L2 Evl
section
variable {P : Program} {w : World} {K : PySem.W.Frag} {mg : Str → Option Value} {base : Heap}
/-- the two lists that a table writes -/
structure TB (K : PySem.W.Frag) (a : Addr) (H : Hp) (lf lt n m : Nat) (H' : Hp) : Prop where
  mo : Mo (some a) H H'
  f : ∃ xs, H' lf = some (.lst xs) ∧ 1 ≤ xs.length ∧ xs.length ≤ n ∧ ∀ x ∈ xs, Trow K x H'
  t : ∃ ys, H' lt = some (.lst ys) ∧ ys.length ≤ m ∧ ∀ y ∈ ys, Tpl K y H'
section
variable {a : Addr} {H H' H1 : Hp} {lf lt n m n' m' : Nat} {σ : L2.St} {te : TE} {D : Ends} {tz : TS} {i : Nat}
theorem TB.go (h : TB K a H lf lt n m H') (hf : H lf = none) (ht : H lt = none) (mo : Mo (some a) H' H1) : TB K a H lf lt n m H1 := by
  obtain ⟨xs, f1, f2, f3, f4⟩ := h.f
  obtain ⟨ys, t1, t2, t3⟩ := h.t
  exact ⟨h.mo.trans mo, ⟨xs, mo.ox _ _ (ne_fr h.mo hf) f1, f2, f3, fun x hx => sv_Trow.st _ _ _ (f4 x hx) mo.ts⟩, ⟨ys, mo.ox _ _ (ne_fr h.mo ht) t1, t2, fun x hx => sv_Tpl.st _ _ _ (t3 x hx) mo.ts⟩⟩
theorem TB.wd (h : TB K a H lf lt n m H') (h1 : n ≤ n') (h2 : m ≤ m') : TB K a H lf lt n' m' H' := by
  obtain ⟨xs, f1, f2, f3, f4⟩ := h.f
  obtain ⟨ys, t1, t2, t3⟩ := h.t
  exact ⟨h.mo, ⟨xs, f1, f2, by omega, f4⟩, ⟨ys, t1, by omega, t3⟩⟩
theorem TB.appF (h : TB K a H lf lt n m H') (hf : H lf = none) (ht : H lt = none) (hn : lf ≠ lt) (hz : n < 1000000) (hv : Gv (some a) te σ H' (Trow K)) (hi : σ[i]? = some (some (.ref lf))) (k : ∀ H1, TB K a H lf lt (n + 1) m H1 → D.nx σ H1) : tDrop (tBM K "list" rAppend (tVar i) (tCons te tNil)) D σ H' := by
  obtain ⟨xs, f1, f2, f3, f4⟩ := h.f
  refine y_app h.mo.r hv hi f1 (ne_fr h.mo hf) (by omega) fun v H1 m1 tv g1 => k _ ?_
  obtain ⟨ys, t1, t2, t3⟩ := h.t
  have tsu : Ts K H1 (upd H1 lf (.lst (xs ++ [v]))) := fun b ws q => st_updL g1 q
  exact ⟨mo_upd (h.mo.trans m1) hf, ⟨_, upd_same, by rw [List.length_append]; exact Nat.le_add_right_of_le f2, by rw [List.length_append]; exact Nat.succ_le_succ f3, app_all (K := K) (fun x hx => sv_Trow.st _ _ _ (f4 x hx) m1.ts) tv (fun _ h => h) inferInstance g1⟩,
    ⟨ys, by rw [upd_ne (Ne.symm hn)]; exact m1.ox _ _ (ne_fr h.mo ht) t1, t2, fun x hx => sv_Tpl.st _ _ _ (sv_Tpl.st _ _ _ (t3 x hx) m1.ts) tsu⟩⟩
theorem TB.appT (h : TB K a H lf lt n m H') (hf : H lf = none) (ht : H lt = none) (hn : lf ≠ lt) (hz : m < 1000000) (hv : Gv (some a) te σ H' (Tpl K)) (hi : σ[i]? = some (some (.ref lt))) (k : ∀ H1, TB K a H lf lt n (m + 1) H1 → D.nx σ H1) : tDrop (tBM K "list" rAppend (tVar i) (tCons te tNil)) D σ H' := by
  obtain ⟨xs, f1, f2, f3, f4⟩ := h.f
  obtain ⟨ys, t1, t2, t3⟩ := h.t
  refine y_app h.mo.r hv hi t1 (ne_fr h.mo ht) (by omega) fun v H1 m1 tv g1 => k _ ?_
  have tsu : Ts K H1 (upd H1 lt (.lst (ys ++ [v]))) := fun b ws q => st_updL g1 q
  exact ⟨mo_upd (h.mo.trans m1) ht, ⟨xs, by rw [upd_ne hn]; exact m1.ox _ _ (ne_fr h.mo hf) f1, f2, f3, fun x hx => sv_Trow.st _ _ _ (sv_Trow.st _ _ _ (f4 x hx) m1.ts) tsu⟩,
    ⟨_, upd_same, by rw [List.length_append]; exact Nat.succ_le_succ t2, app_all (K := K) (fun x hx => sv_Tpl.st _ _ _ (t3 x hx) m1.ts) tv (fun _ h => h) inferInstance g1⟩⟩
theorem TB.gt (h : TB K a H lf lt n m H') (ht : H lt = none) (hi : σ[i]? = some (some (.ref lt))) : Gv (some a) (tVar i) σ H' (Tl (some a) (Tpl K) 0 m) := by
  obtain ⟨ys, t1, t2, t3⟩ := h.t
  exact gv_v (K := K) hi ⟨lt, ys, rfl, ne_fr h.mo ht, t1, Nat.zero_le _, t2, t3⟩
theorem TB.gf (h : TB K a H lf lt n m H') (hf : H lf = none) (hi : σ[i]? = some (some (.ref lf))) : Gv (some a) (tVar i) σ H' (Tl (some a) (Trow K) 1 n) := by
  obtain ⟨ys, t1, t2, t3, t4⟩ := h.f
  exact gv_v (K := K) hi ⟨lf, ys, rfl, ne_fr h.mo hf, t1, t2, t3, t4⟩
end
def sp_law_table (K : PySem.W.Frag) : Sp := spP (fun pu => [Tl pu (Tq 7) 0 1, Tl pu (Tq 7) 3 3]) fun pu => Tl pu (Trow K) 1 17
theorem gv_toks {a : Addr} {σ : L2.St} {H : Hp} {tt : TA} {E : XK} (h0 : σ[0]? = some (some (.ref a))) (h : GvA (some a) tt σ H [Ti 0 6, Tl (some a) (Tq 7) 0 1, Tl (some a) (Tq 7) 3 3, Tb]) : Gv (some a) (tCall (sp_law_tokens K) [] E (tCons (tVar 0) tt)) σ H (Tkk K) :=
  gv_tw (K := K) (gv_callP (es := fun pu => [Ti 0 6, Tl pu (Tq 7) 0 1, Tl pu (Tq 7) 3 3, Tb]) (T := fun _ => Tt K (Tq 18) 0 7) h0 h) (by decide) (by decide) fun _ _ h => h
theorem gva_toks {a : Addr} {σ : L2.St} {H : Hp} {tn tm tr tb : TE} {n : Int} (h1 : Gv (some a) tn σ H (Ti n n)) (hn : 0 ≤ n ∧ n ≤ 6) (h2 : Gv (some a) tm σ H (Tl (some a) (Tq 7) 0 1)) (h3 : Gv (some a) tr σ H (Tl (some a) (Tq 7) 3 3)) (h4 : Gv (some a) tb σ H Tb) : GvA (some a) (tCons tn (tCons tm (tCons tr (tCons tb tNil)))) σ H [Ti 0 6, Tl (some a) (Tq 7) 0 1, Tl (some a) (Tq 7) 3 3, Tb] :=
  gva_cons (K := []) inferInstance (gv_iw h1 hn.1 hn.2) (gva_cons (K := []) inferInstance h2 (gva_cons (K := []) inferInstance h3 (gva_cons (K := []) inferInstance h4 gva_nil)))
theorem gv_nilq {pu : Option Addr} {σ : L2.St} {H : Hp} : Gv pu (tLst tNil) σ H (Tl pu (Tq 7) 0 1) := gv_lw (gv_nilL (e := Tq 7)) (by decide) (by decide) fun _ _ h => h
theorem gv_nilT {pu : Option Addr} {σ : L2.St} {H : Hp} : Gv pu (tTup tNil) σ H (Tkk K) := (gv_tup (K := K) (pu := pu) (es := []) inferInstance (by decide) gva_nil).imp fun v H1 _ t => by
  obtain ⟨p, _, rfl, h, rfl⟩ := t
  exact ⟨p, [], rfl, h, Nat.zero_le _, Nat.zero_le _, fun x hx => by cases hx⟩
-- slots: 0 _law_purse_here, 1 _law_marks, 2 _law_refs, 3 _law_columns, 4 _law_deep, 5 _law_found, 6 _law_taken, 7 _law_r, 8 _law_c, 9 _law_down, 10 _law_across, 11 _law_k
theorem SC__law_table : FnScope ["_law_purse_here", "_law_marks", "_law_refs", "_law_columns", "_law_deep", "_law_found", "_law_taken", "_law_r", "_law_c", "_law_down", "_law_across", "_law_k"] ["_law_purse_here", "_law_marks", "_law_refs"] (defScope (top 71)) := ⟨rfl, rfl, rfl, by decide +kernel, rfl, by decide +kernel, by decide +kernel⟩
theorem cl_law_table (T : Txt w K mg) : Cl P w K mg base CX0 4 "_law_table" (sp_law_table K) := by
  obtain ⟨fd, F, hm⟩ := T.df 35 "_law_table" 71 rfl
  refine cl0 F hm SC__law_table (fun vs H Q E h => by obtain ⟨a, _, rfl, hp, ⟨vm, _, rfl, tm, vr, _, rfl, tr, rfl⟩, k⟩ := h; rfl) (fun _ _ _ _ _ _ us hl => match us, hl with | [_, _, _], _ => rfl) fun cdv A outer s H vs Q E hr h => ?_
  obtain ⟨a, _, rfl, hp, ⟨vm, _, rfl, tm, vr, _, rfl, tr, rfl⟩, k⟩ := h
  refine ⟨_, (pss_cons (ps_par (i := 3) (j := 4) rfl SC__law_table.nd rfl rfl (by decide) rfl rfl (pa_cons (pe_op op_add pe_int (pc (cl_law_pick T) hr (by decide) rfl (pa_cons (pv 0) (pa_cons pe_int pa_nil)))) (pa_cons (pe_op op_add pe_int (pc (cl_law_pick T) hr (by decide) rfl (pa_cons (pv 0) (pa_cons pe_int pa_nil)))) pa_nil)) (by rfl))
      (pss_cons (ps_par (i := 5) (j := 6) rfl SC__law_table.nd rfl rfl (by decide) rfl rfl (pa_cons (pe_lst (pa_cons (pe_tup (pa_cons pe_str (pa_cons (pv 3) (pa_cons (pc (cl_law_tokens T) hr (by decide) rfl (pa_cons (pv 0) (pa_cons pe_int (pa_cons (pv 1) (pa_cons (pv 2) (pa_cons pe_bl pa_nil)))))) pa_nil)))) pa_nil)) (pa_cons (pe_lst pa_nil) pa_nil)) (by rfl))
      (pss_cons (ps_for PassesOwn.never rfl (pi_range1 rfl T.f_range (pa_cons (pv 4) pa_nil)) (pg_name (i := 7) SC__law_table.nd rfl (Or.inl rfl))
        (pss_cons (ps_expr (pe_bm PySem.F.plainAttrs_list PySem.F.slot_list_append PySem.F.type_list_append mt_append (pv 5) (pa_cons (pe_tup (pa_cons pe_str pa_nil)) pa_nil)))
        (pss_one (ps_for PassesOwn.never rfl (pi_range1 rfl T.f_range (pa_cons (pv 3) pa_nil)) (pg_name (i := 8) SC__law_table.nd rfl (Or.inl rfl))
          (pss_one (ps_if (PW.pt (pw_and (pt_cmpR (op_notInD (hu65 hr)) (pe_tup (pa_cons (pv 7) (pa_cons (pv 8) pa_nil))) (pv 6) (by rfl)) (pw_and1 (pt_cmpR op_gt (pc (cl_law_pick T) hr (by decide) rfl (pa_cons (pv 0) (pa_cons pe_int pa_nil))) pe_int (nomark _))))) (pss_cons (ps_asg (pe_tup (pa_cons pe_int (pa_cons pe_int pa_nil))) (pg_tup (n := 2) rfl (pgs_cons (pg_name (i := 9) SC__law_table.nd rfl (Or.inl rfl)) (pgs_cons (pg_name (i := 10) SC__law_table.nd rfl (Or.inl rfl)) pgs_nil))))
            (pss_cons (ps_if (PW.pt (pw_and (pt_cmpR op_lt (pe_op op_add (pv 7) pe_int) (pv 4) (nomark _)) (pw_and1 (pt_cmpR op_eq (pc (cl_law_pick T) hr (by decide) rfl (pa_cons (pv 0) (pa_cons pe_int pa_nil))) pe_int (nomark _))))) (pss_one (ps_set (i := 9) SC__law_table.nd rfl (Or.inl rfl) pe_int)) pss_nil)
            (pss_cons (ps_if (PW.pt (pw_and (pt_cmpR op_lt (pe_op op_add (pv 8) pe_int) (pv 3) (nomark _)) (pw_and (pt_cmpR (op_notInD (hu65 hr)) (pe_tup (pa_cons (pv 7) (pa_cons (pe_op op_add (pv 8) pe_int) pa_nil))) (pv 6) (by rfl)) (pw_and1 (pt_cmpR op_eq (pc (cl_law_pick T) hr (by decide) rfl (pa_cons (pv 0) (pa_cons pe_int pa_nil))) pe_int (nomark _)))))) (pss_one (ps_set (i := 10) SC__law_table.nd rfl (Or.inl rfl) pe_int)) pss_nil)
            (pss_cons (ps_for PassesOwn.never rfl (pi_range1 rfl T.f_range (pa_cons (pe_op op_mul (pv 9) (pv 10)) pa_nil)) (pg_name (i := 11) SC__law_table.nd rfl (Or.inl rfl))
              (pss_one (ps_expr (pe_bm PySem.F.plainAttrs_list PySem.F.slot_list_append PySem.F.type_list_append mt_append (pv 6) (pa_cons (pe_tup (pa_cons (pe_op op_add (pv 7) (pe_op op_fdivN (pv 11) (pv 10))) (pa_cons (pe_op op_add (pv 8) (pe_op op_modN (pv 11) (pv 10))) pa_nil))) pa_nil)))))
            (pss_one (ps_expr (pe_bm PySem.F.plainAttrs_list PySem.F.slot_list_append PySem.F.type_list_append mt_append (pv 5) (pa_cons (pe_tup (pa_cons pe_str (pa_cons (pv 9) (pa_cons (pv 10) (pa_cons (pc (cl_law_tokens T) hr (by decide) rfl (pa_cons (pv 0) (pa_cons pe_int (pa_cons (pe_lst pa_nil) (pa_cons (pv 2) (pa_cons pe_bl pa_nil)))))) pa_nil))))) pa_nil)))))))) (pss_one (ps_if (pt_cmpR (op_notInD (hu65 hr)) (pe_tup (pa_cons (pv 7) (pa_cons (pv 8) pa_nil))) (pv 6) (by rfl)) (pss_cons (ps_expr (pe_bm PySem.F.plainAttrs_list PySem.F.slot_list_append PySem.F.type_list_append mt_append (pv 6) (pa_cons (pe_tup (pa_cons (pv 7) (pa_cons (pv 8) pa_nil))) pa_nil)))
              (pss_one (ps_expr (pe_bm PySem.F.plainAttrs_list PySem.F.slot_list_append PySem.F.type_list_append mt_append (pv 5) (pa_cons (pe_tup (pa_cons pe_str (pa_cons pe_int (pa_cons pe_int (pa_cons (pe_tup pa_nil) pa_nil))))) pa_nil))))) pss_nil))))))))
      (pss_one (ps_ret (pe_op op_cat (pv 5) (pe_lst (pa_cons (pe_tup (pa_cons pe_str pa_nil)) pa_nil)))))))), ?_⟩
  have M := mo_refl hp
  have hI : ∀ {b : Bool}, Tb (.bl b) H := fun {b} => ⟨b, rfl⟩
  refine y_par (T1 := Ti 1 4) (T2 := Ti 1 3) M (gva_cons (K := K) inferInstance (gv_iw (gv_add gv_int (gv_pickC (K := K) rfl (by decide) (by decide))) (by decide) (by decide)) (gva_cons (K := K) inferInstance (gv_iw (gv_add gv_int (gv_pickC (K := K) rfl (by decide) (by decide))) (by decide) (by decide)) gva_nil)) fun vc vd H1 m1 tc td => ?_
  obtain ⟨c, rfl, c0, c1⟩ := tc
  obtain ⟨d, rfl, d0, d1⟩ := td
  refine y_parN (K := K) (e1 := Trow K) (e2 := Tpl K) (b := 1) (d := 0) inferInstance m1.r (gn_lst (K := K) inferInstance (by decide) (gve_cons (K := K) inferInstance (gv_row (K := K) "table" [.i 1 4, .t] (by decide +kernel) (Nat.le_of_ble_eq_true rfl) (gva_cons (K := K) inferInstance (gv_v (K := K) rfl ⟨c, rfl, c0, c1⟩)
    (gva_cons (K := K) inferInstance (gv_toks rfl (gva_toks gv_int (by decide) (gv_v (K := K) rfl ((sb_Tl (K := K)).st _ _ _ tm m1)) (gv_v (K := K) rfl ((sb_Tl (K := K)).st _ _ _ tr m1)) (gv_c fun _ => ⟨_, rfl⟩))) gva_nil))) gve_nil)) (gn_lst (K := K) inferInstance (by decide) gve_nil) fun lf lt H2 xs ys hf ht hn m2 g1 g2 X1 x1 y1 hx hy => ?_
  have B0 : TB K a H1 lf lt 1 0 H2 := ⟨m2, ⟨xs, g1, X1, x1, hx⟩, ⟨ys, g2, y1, hy⟩⟩
  have niP : ∀ {σ : L2.St} {H' : Hp} {ti tj : TE} {n m : Nat}, TB K a H1 lf lt n m H' → σ[6]? = some (some (.ref lt)) → Gv (some a) ti σ H' TiA → Gv (some a) tj σ H' TiA → Gv (some a) (tOp (rNotInD K) (tTup (tCons ti (tCons tj tNil))) (tVar 6)) σ H' Tb := fun {σ H' ti tj n m} B h6 t1 t2 =>
    gv_niD (K := K) inferInstance (gv_pl t1 t2) (B.gt ht h6) dpt_pl dpt_pl (by decide) (by decide)
  refine q_rng (n := d) (ev_var rfl) (by omega) (by omega) (fun i σ' H' => TB K a H1 lf lt (1 + 5 * i) (16 * i) H' ∧ ∃ o7 o8 o9 o10 o11, σ' = [some (.ref a), some vm, some vr, some (.int c), some (.int d), some (.ref lf), some (.ref lt), o7, o8, o9, o10, o11]) (fun H3 e3 => ⟨B0.go hf ht (m2.r.ex e3), _, _, _, _, _, rfl⟩) (fun i σ' H3 hi q => ?_) (fun σ' H3 q => ?_)
  · obtain ⟨B, o7, o8, o9, o10, o11, rfl⟩ := q
    refine TB.appF (D := { nx := _, rt := _, bk := _, ct := _ }) B hf ht hn (by omega) (gv_row (K := K) "row" [] (by decide +kernel) (Nat.le_of_ble_eq_true rfl) gva_nil) rfl fun H4 B4 => ?_
    refine s_rng (n := c) (ev_var rfl) (by omega) (by omega) (fun j σ' H' => TB K a H1 lf lt (1 + 5 * i + 1 + j) (16 * i + 4 * j) H' ∧ ∃ o8 o9 o10 o11, σ' = [some (.ref a), some vm, some vr, some (.int c), some (.int d), some (.ref lf), some (.ref lt), some (.int i), o8, o9, o10, o11]) (fun H5 e5 => ⟨B4.go hf ht (B4.mo.r.ex e5), _, _, _, _, rfl⟩) (fun j σ' H5 hj q => ?_) (fun σ' H5 q => ?_)
    · obtain ⟨B5, o8, o9, o10, o11, rfl⟩ := q
      refine y_ifS B5.mo.r (gt_and1 (gt_test (niP B5 rfl (gv_v (K := K) rfl ⟨_, rfl⟩) (gv_v (K := K) rfl ⟨_, rfl⟩))) (gt_test (gv_cmp (gv_pickC (K := K) rfl (by decide) (by decide)) gv_int))) (fun H6 m6 _ => ?_) (fun H6 m6 _ => ?_)
      · have B6 := B5.go hf ht m6
        refine y_asg2 (K := K) B6.mo.r (gva_cons (K := K) (e := Ti 1 2) inferInstance (gv_iw gv_int (by decide) (by decide)) (gva_cons (K := K) (e := Ti 1 2) inferInstance (gv_iw gv_int (by decide) (by decide)) gva_nil)) inferInstance inferInstance fun v w H7 m7 tv tw => ?_
        obtain ⟨v, rfl, v0, v1⟩ := tv
        obtain ⟨w, rfl, w0, w1⟩ := tw
        have B7 := B6.go hf ht m7
        refine y_whenX (fun σ2 H8 => TB K a H1 lf lt (1 + 5 * i + 1 + j) (16 * i + 4 * j) H8 ∧ ∃ v : Int, 1 ≤ v ∧ v ≤ 2 ∧ σ2 = [some (.ref a), some vm, some vr, some (.int c), some (.int d), some (.ref lf), some (.ref lt), some (.int i), some (.int j), some (.int v), some (.int w), o11]) B7.mo.r
          (gt_and1 (gt_test (gv_cmp (gv_add (gv_v (K := K) rfl ⟨_, rfl, Int.le_refl _, Int.le_refl _⟩) gv_int) (gv_v (K := K) rfl ⟨_, rfl, Int.le_refl _, Int.le_refl _⟩))) (gt_test (gv_eqI (gv_pickC (K := K) rfl (by decide) (by decide)) gv_int)))
          (fun H8 m8 _ kk => s_asgT m8.r (gv_int (i := 2)) fun v2 H9 m9 t => by
            obtain ⟨v2, rfl, e1, e2⟩ := t
            exact kk _ _ ⟨(B7.go hf ht m8).go hf ht m9, v2, by omega, by omega, rfl⟩) (fun H8 m8 _ => ⟨B7.go hf ht m8, v, v0, v1, rfl⟩) fun σ2 H8 q => ?_
        obtain ⟨B8, v, v0, v1, rfl⟩ := q
        refine y_whenX (fun σ2 H8 => TB K a H1 lf lt (1 + 5 * i + 1 + j) (16 * i + 4 * j) H8 ∧ ∃ w : Int, 1 ≤ w ∧ w ≤ 2 ∧ σ2 = [some (.ref a), some vm, some vr, some (.int c), some (.int d), some (.ref lf), some (.ref lt), some (.int i), some (.int j), some (.int v), some (.int w), o11]) B8.mo.r
          (gt_and1 (gt_test (gv_cmp (gv_add (gv_v (K := K) rfl ⟨_, rfl, Int.le_refl _, Int.le_refl _⟩) gv_int) (gv_v (K := K) rfl ⟨_, rfl, Int.le_refl _, Int.le_refl _⟩)))
            (gt_and1 (gt_test (niP B8 rfl (gv_v (K := K) rfl ⟨_, rfl⟩) (gv_addA (gv_v (K := K) rfl ⟨_, rfl⟩) (gv_A gv_int)))) (gt_test (gv_eqI (gv_pickC (K := K) rfl (by decide) (by decide)) gv_int))))
          (fun H9 m9 _ kk => s_asgT m9.r (gv_int (i := 2)) fun v2 H10 m10 t => by
            obtain ⟨v2, rfl, e1, e2⟩ := t
            exact kk _ _ ⟨(B8.go hf ht m9).go hf ht m10, v2, by omega, by omega, rfl⟩) (fun H9 m9 _ => ⟨B8.go hf ht m9, w, w0, w1, rfl⟩) fun σ2 H9 q => ?_
        obtain ⟨B9, w, w0, w1, rfl⟩ := q
        have hvw : 0 ≤ v * w ∧ v * w ≤ 4 := ⟨Int.mul_nonneg (by omega) (by omega), by
          have : v * w ≤ 2 * 2 := Int.mul_le_mul v1 w1 (by omega) (by omega)
          omega⟩
        refine q_rng (n := v * w) (ev_op (ev_var rfl) (ev_var rfl) (rv_I (cmul_l (by omega) (by omega)))) hvw.1 (by omega) (fun l σ' H' => TB K a H1 lf lt (1 + 5 * i + 1 + j) (16 * i + 4 * j + l) H' ∧ ∃ o11, σ' = [some (.ref a), some vm, some vr, some (.int c), some (.int d), some (.ref lf), some (.ref lt), some (.int i), some (.int j), some (.int v), some (.int w), o11]) (fun H10 e10 => ⟨B9.go hf ht (B9.mo.r.ex e10), _, rfl⟩) (fun l σ' H10 hl q => ?_) (fun σ' H10 q => ?_)
        · obtain ⟨B10, o11, rfl⟩ := q
          exact TB.appT B10 hf ht hn (by omega) (gv_pl (gv_addA (gv_v (K := K) rfl ⟨_, rfl⟩) (gv_divA (gv_v (K := K) rfl ⟨_, rfl⟩) (gv_v (K := K) rfl ⟨_, rfl, w0, w1⟩) (by decide) (by decide))) (gv_addA (gv_v (K := K) rfl ⟨_, rfl⟩) (gv_modA (gv_v (K := K) rfl ⟨_, rfl⟩) (gv_v (K := K) rfl ⟨_, rfl, w0, w1⟩) (by decide)))) rfl fun H11 B11 => ⟨B11, _, rfl⟩
        · obtain ⟨B10, o11, rfl⟩ := q
          have tr10 := (sb_Tl (K := K)).st _ _ _ tr (m1.trans B10.mo)
          exact TB.appF B10 hf ht hn (by omega) (gv_row (K := K) "cell" [.i 1 4, .i 1 4, .t] (by decide +kernel) (Nat.le_of_ble_eq_true rfl) (gva_cons (K := K) inferInstance (gv_v (K := K) rfl ⟨v, rfl, by omega, by omega⟩) (gva_cons (K := K) inferInstance (gv_v (K := K) rfl ⟨w, rfl, by omega, by omega⟩) (gva_cons (K := K) inferInstance (gv_toks rfl (gva_toks gv_int (by decide) gv_nilq (gv_v (K := K) rfl tr10) (gv_c fun _ => ⟨_, rfl⟩))) gva_nil)))) rfl fun H11 B11 => ⟨B11.wd (by omega) (by omega), _, _, _, _, rfl⟩
      · have B6 := B5.go hf ht m6
        refine y_whenS B6.mo.r (gt_test (niP B6 rfl (gv_v (K := K) rfl ⟨_, rfl⟩) (gv_v (K := K) rfl ⟨_, rfl⟩))) (fun H7 m7 _ => ?_) (fun H7 m7 _ => ?_)
        · have B7 := B6.go hf ht m7
          refine TB.appT (D := { nx := _, rt := _, bk := _, ct := _ }) B7 hf ht hn (by omega) (gv_pl (gv_v (K := K) rfl ⟨_, rfl⟩) (gv_v (K := K) rfl ⟨_, rfl⟩)) rfl fun H8 B8 => ?_
          exact TB.appF B8 hf ht hn (by omega) (gv_row (K := K) "cell" [.i 1 4, .i 1 4, .t] (by decide +kernel) (Nat.le_of_ble_eq_true rfl) (gva_cons (K := K) inferInstance (gv_iw gv_int (by decide) (by decide)) (gva_cons (K := K) inferInstance (gv_iw gv_int (by decide) (by decide)) (gva_cons (K := K) inferInstance gv_nilT gva_nil)))) rfl fun H9 B9 => ⟨B9.wd (by omega) (by omega), _, _, _, _, rfl⟩
        · exact ⟨(B6.go hf ht m7).wd (by omega) (by omega), _, _, _, _, rfl⟩
    · obtain ⟨B5, o8, o9, o10, o11, rfl⟩ := q
      exact ⟨B5.wd (by omega) (by omega), _, _, _, _, _, rfl⟩
  · obtain ⟨B, o7, o8, o9, o10, o11, rfl⟩ := q
    refine y_ret B.mo.r (gv_cat (K := K) (c := 1) (d := 1) inferInstance (B.gf hf rfl) (gv_lst (K := K) (e := Trow K) inferInstance (by decide) (gve_cons (K := K) inferInstance (gv_row (K := K) "close" [] (by decide +kernel) (Nat.le_of_ble_eq_true rfl) gva_nil) gve_nil)) (by omega)) fun v H4 m4 t => k v H4 ((m1.trans B.mo).trans m4) ?_
    obtain ⟨p, zs, rfl, z1, z2, z3, z4, z5⟩ := t
    exact ⟨p, zs, rfl, z1, z2, by omega, by omega, z5⟩
end
end Pk
set_option Elab.async false
set_option linter.all false
set_option maxRecDepth 100000
set_option maxHeartbeats 4000000
namespace Pk
open PySem PySem.Spec PyProof.Rows L2 Evl
section
variable {P : Program} {w : World} {K : PySem.W.Frag} {mg : Str → Option Value} {base : Heap}
theorem gv_sub {pu : Option Addr} {σ : L2.St} {H : Hp} {ta tb : TE} {a b a' b' : Int} (ha : Gv pu ta σ H (Ti a b)) (hb : Gv pu tb σ H (Ti a' b')) : Gv pu (tOp (rI0 fun i j => .int (i - j)) ta tb) σ H (Ti (a - b') (b - a')) :=
  gv_rI0 ha hb fun i j _ h1 h2 h3 h4 => ⟨i - j, rfl, by omega, by omega⟩
theorem gv_vm {pu : Option Addr} {σ : L2.St} {H0 H : Hp} {i : Nat} {v : V} {T : TP} (m : Mo pu H0 H) (h0 : σ[i]? = some (some v)) (h : T v H0) [s : Sb K pu T] : Gv pu (tVar i) σ H T := gv_v (K := K) h0 (s.st v H0 H h m)
def sp_law_any_row (K : PySem.W.Frag) : Sp := spP (fun pu => [Tl pu (Tq 7) 3 3]) fun _ => Trow K
-- slots: 0 _law_purse_here, 1 _law_names_here, 2 _law_sort, 3 _law_depth, 4 _law_marks, 5 _law_bare, 6 _law_full, 7 _law_label, 8 _law_side, 9 _law_thing, 10 _law_some
theorem SC__law_any_row : FnScope ["_law_purse_here", "_law_names_here", "_law_sort", "_law_depth", "_law_marks", "_law_bare", "_law_full", "_law_label", "_law_side", "_law_thing", "_law_some"] ["_law_purse_here", "_law_names_here"] (defScope (top 84)) := ⟨rfl, rfl, rfl, by decide +kernel, rfl, by decide +kernel, by decide +kernel⟩
theorem cl_law_any_row (T : Txt w K mg) : Cl P w K mg base CX0 5 "_law_any_row" (sp_law_any_row K) := by
  obtain ⟨fd, F, hm⟩ := T.df 48 "_law_any_row" 84 rfl
  refine cl0 F hm SC__law_any_row (fun vs H Q E h => by obtain ⟨a, _, rfl, hp, ⟨vn, _, rfl, tn, rfl⟩, k⟩ := h; rfl) (fun _ _ _ _ _ _ us hl => match us, hl with | [_, _], _ => rfl) fun cdv A outer s H vs Q E hr h => ?_
  obtain ⟨a, _, rfl, hp, ⟨vn, _, rfl, tn, rfl⟩, k⟩ := h
  refine ⟨_, (pss_cons (ps_par (i := 2) (j := 3) rfl SC__law_any_row.nd rfl rfl (by decide) rfl rfl (pa_cons (pc (cl_law_pick T) hr (by decide) rfl (pa_cons (pv 0) (pa_cons pe_int pa_nil))) (pa_cons (pe_op op_add pe_int (pc (cl_law_pick T) hr (by decide) rfl (pa_cons (pv 0) (pa_cons pe_int pa_nil)))) pa_nil)) (by rfl))
      (pss_cons (ps_set (i := 4) SC__law_any_row.nd rfl (Or.inl rfl) (pe_slice sl_list (pv 1) po_none (po_some (pc (cl_law_pick T) hr (by decide) rfl (pa_cons (pv 0) (pa_cons pe_int pa_nil))))))
      (pss_cons (ps_par (i := 5) (j := 6) rfl SC__law_any_row.nd rfl rfl (by decide) rfl rfl (pa_cons (pc (cl_law_tokens T) hr (by decide) rfl (pa_cons (pv 0) (pa_cons pe_int (pa_cons (pv 4) (pa_cons (pv 1) (pa_cons pe_bl pa_nil)))))) (pa_cons (pc (cl_law_tokens T) hr (by decide) rfl (pa_cons (pv 0) (pa_cons pe_int (pa_cons (pe_lst pa_nil) (pa_cons (pv 1) (pa_cons pe_bl pa_nil)))))) pa_nil)) (by rfl))
      (pss_cons (ps_if (pt_cmpR op_eq (pc (cl_law_pick T) hr (by decide) rfl (pa_cons (pv 0) (pa_cons pe_int pa_nil))) pe_int (nomark _)) (pss_one (ps_set (i := 6) SC__law_any_row.nd rfl (Or.inl rfl) (pc (cl_law_with_note T) hr (by decide) rfl (pa_cons (pv 0) (pa_cons (pv 6) (pa_cons (pv 1) pa_nil)))))) pss_nil)
      (pss_cons (ps_set (i := 7) SC__law_any_row.nd rfl (Or.inl rfl) (pe_ix ix_list (pe_op op_cat (pv 1) (pe_lst (pa_cons pe_str pa_nil))) (pc (cl_law_pick T) hr (by decide) rfl (pa_cons (pv 0) (pa_cons (pe_op op_add (pe_callB call_len_seq rfl T.f_len boot_len (pa_cons (pv 1) pa_nil)) pe_int) pa_nil))) (fun _ _ => rfl)))
      (pss_cons (ps_par (i := 8) (j := 9) rfl SC__law_any_row.nd rfl rfl (by decide) rfl rfl (pa_cons (pe_ix ix_list (pe_lst (pa_cons pe_str (pa_cons pe_str (pa_cons pe_str pa_nil)))) (pe_op op_sub (pv 3) pe_int) (fun _ _ => rfl)) (pa_cons (pe_ix ix_list (pe_lst (pa_cons pe_str (pa_cons pe_str (pa_cons pe_str (pa_cons pe_str pa_nil))))) (pc (cl_law_pick T) hr (by decide) rfl (pa_cons (pv 0) (pa_cons pe_int pa_nil))) (fun _ _ => rfl)) pa_nil)) (by rfl))
      (pss_cons (ps_set (i := 10) SC__law_any_row.nd rfl (Or.inl rfl) (pe_lst (pa_cons (pe_tup (pa_cons pe_str (pa_cons (pv 7) (pa_cons (pc (cl_law_pick T) hr (by decide) rfl (pa_cons (pv 0) (pa_cons pe_int pa_nil))) (pa_cons (pc (cl_law_pick T) hr (by decide) rfl (pa_cons (pv 0) (pa_cons pe_int pa_nil))) (pa_cons (pc (cl_law_pick T) hr (by decide) rfl (pa_cons (pv 0) (pa_cons pe_int pa_nil))) (pa_cons (pv 8) pa_nil))))))) pa_nil)))
      (pss_cons (ps_expr (pe_bm PySem.F.plainAttrs_list PySem.F.slot_list_append PySem.F.type_list_append mt_append (pv 10) (pa_cons (pe_tup (pa_cons pe_str (pa_cons (pv 9) (pa_cons (pe_ix ix_str pe_str (pe_op op_sub (pv 3) pe_int) (fun _ _ => rfl)) (pa_cons (pc (cl_law_pick T) hr (by decide) rfl (pa_cons (pv 0) (pa_cons pe_int pa_nil))) pa_nil))))) pa_nil)))
      (pss_cons (ps_set (i := 10) SC__law_any_row.nd rfl (Or.inl rfl) (pe_op op_cat (pv 10) (pe_lst (pa_cons (pe_tup (pa_cons pe_str (pa_cons pe_str (pa_cons (pe_ix ix_str pe_str (pc (cl_law_pick T) hr (by decide) rfl (pa_cons (pv 0) (pa_cons pe_int pa_nil))) (fun _ _ => rfl)) (pa_cons (pv 3) pa_nil))))) (pa_cons (pe_tup (pa_cons pe_str (pa_cons pe_str (pa_cons (pe_ix ix_str pe_str (pe_op op_sub (pv 3) pe_int) (fun _ _ => rfl)) (pa_cons pe_int pa_nil))))) pa_nil)))))
      (pss_cons (ps_set (i := 10) SC__law_any_row.nd rfl (Or.inl rfl) (pe_op op_cat (pv 10) (pe_lst (pa_cons (pe_tup (pa_cons pe_str (pa_cons (pv 3) (pa_cons (pv 5) pa_nil)))) (pa_cons (pe_tup (pa_cons pe_str (pa_cons (pe_ix ix_list (pe_lst (pa_cons pe_str (pa_cons (pv 7) pa_nil))) (pc (cl_law_pick T) hr (by decide) rfl (pa_cons (pv 0) (pa_cons pe_int pa_nil))) (fun _ _ => rfl)) (pa_cons (pv 6) pa_nil)))) pa_nil)))))
      (pss_cons (ps_set (i := 10) SC__law_any_row.nd rfl (Or.inl rfl) (pe_op op_cat (pv 10) (pe_lst (pa_cons (pe_tup (pa_cons pe_str (pa_cons (pv 3) (pa_cons (pe_ix ix_list (pe_lst (pa_cons pe_str (pa_cons pe_str pa_nil))) (pc (cl_law_pick T) hr (by decide) rfl (pa_cons (pv 0) (pa_cons pe_int pa_nil))) (fun _ _ => rfl)) (pa_cons (pv 6) pa_nil))))) pa_nil))))
      (pss_cons (ps_set (i := 10) SC__law_any_row.nd rfl (Or.inl rfl) (pe_op op_cat (pv 10) (pe_lst (pa_cons (pe_tup (pa_cons pe_str (pa_cons (pe_op op_add pe_int (pc (cl_law_pick T) hr (by decide) rfl (pa_cons (pv 0) (pa_cons pe_int pa_nil)))) (pa_cons (pv 5) pa_nil)))) pa_nil))))
      (pss_cons (ps_set (i := 10) SC__law_any_row.nd rfl (Or.inl rfl) (pe_op op_cat (pv 10) (pe_lst (pa_cons (pe_tup (pa_cons pe_str (pa_cons (pe_op op_add pe_int (pc (cl_law_pick T) hr (by decide) rfl (pa_cons (pv 0) (pa_cons pe_int pa_nil)))) (pa_cons (pv 5) pa_nil)))) (pa_cons (pe_tup (pa_cons pe_str pa_nil)) (pa_cons (pe_tup (pa_cons pe_str pa_nil)) (pa_cons (pe_tup (pa_cons pe_str (pa_cons (pv 3) pa_nil))) pa_nil)))))))
      (pss_cons (ps_set (i := 10) SC__law_any_row.nd rfl (Or.inl rfl) (pe_op op_cat (pv 10) (pe_lst (pa_cons (pe_tup (pa_cons pe_str (pa_cons (pv 7) pa_nil))) pa_nil))))
      (pss_cons (ps_set (i := 10) SC__law_any_row.nd rfl (Or.inl rfl) (pe_op op_cat (pv 10) (pe_lst (pa_cons (pe_tup (pa_cons pe_str (pa_cons (pe_op op_add pe_int (pc (cl_law_pick T) hr (by decide) rfl (pa_cons (pv 0) (pa_cons pe_int pa_nil)))) (pa_cons (pe_op op_add pe_int (pc (cl_law_pick T) hr (by decide) rfl (pa_cons (pv 0) (pa_cons pe_int pa_nil)))) (pa_cons (pc (cl_law_tokens T) hr (by decide) rfl (pa_cons (pv 0) (pa_cons pe_int (pa_cons (pe_lst pa_nil) (pa_cons (pv 1) (pa_cons pe_bl pa_nil)))))) pa_nil))))) pa_nil))))
      (pss_cons (ps_set (i := 10) SC__law_any_row.nd rfl (Or.inl rfl) (pe_op op_cat (pv 10) (pe_lst (pa_cons (pe_ix ix_list (pe_lst (pa_cons (pe_tup (pa_cons pe_str pa_nil)) (pa_cons (pe_tup (pa_cons pe_str pa_nil)) pa_nil))) (pc (cl_law_pick T) hr (by decide) rfl (pa_cons (pv 0) (pa_cons pe_int pa_nil))) (fun _ _ => rfl)) pa_nil))))
      (pss_cons (ps_set (i := 10) SC__law_any_row.nd rfl (Or.inl rfl) (pe_op op_cat (pv 10) (pe_lst (pa_cons (pe_ix ix_list (pe_lst (pa_cons (pe_tup (pa_cons pe_str pa_nil)) (pa_cons (pe_tup (pa_cons pe_str pa_nil)) pa_nil))) (pc (cl_law_pick T) hr (by decide) rfl (pa_cons (pv 0) (pa_cons pe_int pa_nil))) (fun _ _ => rfl)) pa_nil))))
      (pss_one (ps_ret (pe_ix ix_list (pe_op op_cat (pv 10) (pe_lst (pa_cons (pe_tup (pa_cons pe_str (pa_cons (pe_ix ix_list (pe_lst (pa_cons pe_str (pa_cons pe_str (pa_cons pe_str pa_nil)))) (pe_op op_sub (pv 3) pe_int) (fun _ _ => rfl)) pa_nil))) (pa_cons (pe_tup (pa_cons pe_str pa_nil)) pa_nil)))) (pv 2) (fun _ _ => rfl))))))))))))))))))))), ?_⟩
  have M := mo_refl hp
  refine y_par (T1 := Ti 0 17) (T2 := Ti 1 3) M (gva_cons (K := K) inferInstance (gv_pickC (K := K) rfl (by decide) (by decide)) (gva_cons (K := K) inferInstance (gv_iw (gv_add gv_int (gv_pickC (K := K) rfl (by decide) (by decide))) (by decide) (by decide)) gva_nil)) fun vs vd H1 m1 ts td => ?_
  obtain ⟨sn, rfl, s0, s1⟩ := ts
  obtain ⟨d, rfl, d0, d1⟩ := td
  have tn1 := (sb_Tl (K := K)).st _ _ _ tn m1
  have hsl : ∀ {σ : L2.St}, σ[1]? = some (some vn) → σ[0]? = some (some (.ref a)) → Gv (some a) (tSl (rSlL K) (tVar 1) tNoPart (tPart (tCall (sp_law_pick K) [] E0 (tCons (tVar 0) (tCons (tC (.int 2)) tNil))))) σ H1 (Tl (some a) (Tq 7) 0 1) := fun {σ} h1 h0 Hx mx Q q => by
    obtain ⟨pn, ns, rfl, nn, gn, n0, n1, hns⟩ := (sb_Tl (K := K)).st _ _ _ tn1 mx
    refine ⟨_, h1, gv_pickC (K := K) (a := a) (d := 2) h0 (by decide) (by decide) Hx mx.r _ fun v H2 m2 t => ?_⟩
    obtain ⟨i, rfl, i0, i1⟩ := t
    refine ⟨i, rfl, pn, ns, rfl, sq_of (m2.ox _ _ nn gn), fun p' hp' => ?_⟩
    have m3 := m2.r.ex (Ex.new (o := .lst (cutV ns none (some i))) hp')
    have hl : (cutV ns none (some i)).length ≤ 1 := by
      obtain ⟨j, rfl⟩ := Int.eq_ofNat_of_zero_le i0
      have : ns.length = 3 := by omega
      unfold cutV
      rw [List.length_take, List.length_drop, HT.sIx_nat]
      have e1 : HT.sIx ns.length 0 none = 0 := rfl
      rw [e1]
      omega
    exact q _ _ (m2.trans m3) ⟨p', _, rfl, ne_fresh m2 hp', upd_same, Nat.zero_le _, hl, fun x hx => sv_Tq.st (K := K) _ _ _ (sv_Tq.st (K := K) _ _ _ (hns x (cutV_mem hx)) m2.ts) m3.ts⟩
  refine y_asg m1.r (hsl rfl rfl) fun vm H2 m2 tm => ?_
  have m12 := m1.trans m2
  refine y_par (T1 := Tkk K) (T2 := Tt K (Tq 18) 0 7) m2.r (gva_cons (K := K) inferInstance (gv_toks rfl (gva_toks gv_int (by decide) (gv_v (K := K) rfl tm) (gv_vm (K := K) m12 rfl tn) (gv_c fun _ => ⟨_, rfl⟩)))
    (gva_cons (K := K) inferInstance (gv_callP (es := fun pu => [Ti 0 6, Tl pu (Tq 7) 0 1, Tl pu (Tq 7) 3 3, Tb]) (T := fun _ => Tt K (Tq 18) 0 7) rfl (gva_toks gv_int (by decide) gv_nilq (gv_vm (K := K) m12 rfl tn) (gv_c fun _ => ⟨_, rfl⟩))) gva_nil)) fun vb vf H3 m3 tb tf => ?_
  have m13 := m12.trans m3
  refine y_whenX (fun σ2 H4 => Mo (some a) H3 H4 ∧ ∃ vf, Tkk K vf H4 ∧ σ2 = [some (.ref a), some vn, some (.int sn), some (.int d), some vm, some vb, some vf, none, none, none, none]) m3.r (gt_test (gv_eqI (gv_pickC (K := K) rfl (by decide) (by decide)) gv_int))
    (fun H4 m4 _ kk => s_asgT m4.r (gv_callP (es := fun pu => [Tt K (Tq 18) 0 7, Tl pu (Tq 7) 3 3]) (T := fun _ => Tt K (Tq 18) 0 25) rfl (gva_cons (K := K) inferInstance (gv_vm (K := K) m4 rfl tf) (gva_cons (K := K) inferInstance (gv_vm (K := K) (m13.trans m4) rfl tn) gva_nil))) fun v H5 m5 t => kk _ _ ⟨m4.trans m5, v, t, rfl⟩)
    (fun H4 m4 _ => ⟨m4, vf, by
      obtain ⟨p, xs, rfl, f1, f2, f3, f4⟩ := (sv_Tt (K := K)).st _ _ _ tf m4.ts
      exact ⟨p, xs, rfl, f1, f2, by omega, f4⟩, rfl⟩) fun σ2 H4 q => ?_
  obtain ⟨m4, vf, tf, rfl⟩ := q
  have m14 := m13.trans m4
  refine y_asg m4.r (gv_ixL (K := K) (lo := 4) (hi := 4) inferInstance (gv_cat (K := K) (a := 3) (b := 3) inferInstance (gv_vm (K := K) m14 rfl tn) (gv_strs (n := 1) ["x"] (m := 7) (by decide +kernel) rfl (by decide)) (by decide)) (gv_pick (K := K) (c := 4) (d := 4) rfl (gv_iw (gv_add (gv_lenL (gv_vm (K := K) m14 rfl tn)) gv_int) (by decide) (by decide)) (by decide) (by decide)) (by decide)) fun vl H5 m5 tl => ?_
  have tl := tq_le (m := 12) (by decide) tl
  have m15 := m14.trans m5
  refine y_par (T1 := Tq 12) (T2 := Tq 12) m5.r (gva_cons (K := K) inferInstance (gv_ixL (K := K) inferInstance (gv_strs (n := 3) ["left", "right", "middle"] (m := 12) (by decide +kernel) rfl (by decide)) (gv_iw (gv_sub (gv_v (K := K) rfl ⟨d, rfl, d0, d1⟩) gv_int) (by decide) (Int.le_refl _)) (by decide))
    (gva_cons (K := K) inferInstance (gv_ixL (K := K) inferInstance (gv_strs (n := 4) ["table", "figure", "foot", "end"] (m := 12) (by decide +kernel) rfl (by decide)) (gv_pickC (K := K) rfl (by decide) (by decide)) (by decide)) gva_nil)) fun vs vt H6 m6 ts tt => ?_
  have m16 := m15.trans m6
  refine y_asgN m6.r (gn_lst (K := K) (e := Trow K) inferInstance (by decide) (gve_cons (K := K) inferInstance (gv_row (K := K) "style" [.q, .i 0 9, .i 0 9, .i 0 9, .q] (by decide +kernel) (Nat.le_of_ble_eq_true rfl) (gva_cons (K := K) inferInstance (gv_vm (K := K) m6 rfl tl) (gva_cons (K := K) inferInstance (gv_iw (gv_pickC (K := K) rfl (by decide) (by decide)) (by decide) (by decide)) (gva_cons (K := K) inferInstance (gv_iw (gv_pickC (K := K) rfl (by decide) (by decide)) (by decide) (by decide)) (gva_cons (K := K) inferInstance (gv_iw (gv_pickC (K := K) rfl (by decide) (by decide)) (by decide) (by decide)) (gva_cons (K := K) inferInstance (gv_v (K := K) rfl ts) gva_nil)))))) gve_nil)) fun l H7 xs hl m7 g7 x0 x1 hx => ?_
  refine q_app m7.r (gv_row (K := K) "counter" [.q, .q, .i 0 9] (by decide +kernel) (Nat.le_of_ble_eq_true rfl) (gva_cons (K := K) inferInstance (gv_vm (K := K) m7 rfl tt) (gva_cons (K := K) inferInstance (gv_qw (gv_ixS (n := 2) (gv_c fun _ => rfl) (gv_iw (b' := 2) (gv_sub (gv_v (K := K) rfl ⟨d, rfl, d0, d1⟩) gv_int) (by decide) (by decide)) (by decide) (by decide) (by decide +kernel)) (by decide)) (gva_cons (K := K) inferInstance (gv_iw (gv_pickC (K := K) rfl (by decide) (by decide)) (by decide) (by decide)) gva_nil)))) rfl g7 (ne_fr m7 hl) (by omega) fun v H8 m8 tv g8 => ?_
  have n0 := mo_upd (o := .lst (xs ++ [v])) (m7.trans m8) hl
  have t0 : Tl (some a) (Trow K) 2 2 (.ref l) (upd H8 l (.lst (xs ++ [v]))) := ⟨l, _, rfl, ne_fr m7 hl, upd_same, by rw [List.length_append]; exact Nat.succ_le_succ x0, by rw [List.length_append]; exact Nat.succ_le_succ x1, app_all (K := K) (fun x h => sv_Trow.st _ _ _ (hx x h) m8.ts) tv (fun _ h => h) inferInstance g8⟩
  refine y_asg n0.r (gv_cat (K := K) (a := 2) (b := 2) (c := 2) (d := 2) inferInstance (gv_v (K := K) rfl t0) (gv_lst (K := K) (e := Trow K) inferInstance (by decide) (gve_cons (K := K) inferInstance (gv_row (K := K) "counter" [.q, .q, .i 0 9] (by decide +kernel) (Nat.le_of_ble_eq_true rfl) (gva_cons (K := K) inferInstance (gv_q (by decide) (by decide +kernel)) (gva_cons (K := K) inferInstance (gv_qw (gv_ixS (n := 2) (gv_c fun _ => rfl) (gv_pickC (K := K) (d := 3) rfl (by decide) (by decide)) (by decide) (by decide) (by decide +kernel)) (by decide)) (gva_cons (K := K) inferInstance (gv_v (K := K) rfl ⟨d, rfl, by omega, by omega⟩) gva_nil)))) (gve_cons (K := K) inferInstance (gv_row (K := K) "counter" [.q, .q, .i 0 9] (by decide +kernel) (Nat.le_of_ble_eq_true rfl) (gva_cons (K := K) inferInstance (gv_q (by decide) (by decide +kernel)) (gva_cons (K := K) inferInstance (gv_qw (gv_ixS (n := 2) (gv_c fun _ => rfl) (gv_iw (b' := 2) (gv_sub (gv_v (K := K) rfl ⟨d, rfl, d0, d1⟩) gv_int) (by decide) (by decide)) (by decide) (by decide) (by decide +kernel)) (by decide)) (gva_cons (K := K) inferInstance (gv_iw gv_int (by decide) (by decide)) gva_nil)))) gve_nil))) (by decide)) fun v1 J1 k1 t1 => ?_
  have n1 := n0.trans k1
  refine y_asg n1.r (gv_cat (K := K) (a := 4) (b := 4) (c := 2) (d := 2) inferInstance (gv_v (K := K) rfl t1) (gv_lst (K := K) (e := Trow K) inferInstance (by decide) (gve_cons (K := K) inferInstance (gv_row (K := K) "head" [.i 0 9, .t] (by decide +kernel) (Nat.le_of_ble_eq_true rfl) (gva_cons (K := K) inferInstance (gv_v (K := K) rfl ⟨d, rfl, by omega, by omega⟩) (gva_cons (K := K) inferInstance (gv_vm (K := K) (((m4.trans m5).trans m6).trans n1) rfl tb) gva_nil))) (gve_cons (K := K) inferInstance (gv_row (K := K) "para" [.q, .t] (by decide +kernel) (Nat.le_of_ble_eq_true rfl) (gva_cons (K := K) inferInstance (gv_ixL (K := K) inferInstance (gv_lst (K := K) (n := 2) inferInstance (by decide) (gve_cons (K := K) inferInstance (gv_q (n := 12) (by decide) (by decide +kernel)) (gve_cons (K := K) inferInstance (gv_vm (K := K) (m6.trans n1) rfl tl) gve_nil))) (gv_pickC (K := K) (d := 2) rfl (by decide) (by decide)) (by decide)) (gva_cons (K := K) inferInstance (gv_vm (K := K) ((m5.trans m6).trans n1) rfl tf) gva_nil))) gve_nil))) (by decide)) fun v2 J2 k2 t2 => ?_
  have n2 := n1.trans k2
  refine y_asg n2.r (gv_cat (K := K) (a := 6) (b := 6) (c := 1) (d := 1) inferInstance (gv_v (K := K) rfl t2) (gv_lst (K := K) (e := Trow K) inferInstance (by decide) (gve_cons (K := K) inferInstance (gv_row (K := K) "item" [.i 0 9, .q, .t] (by decide +kernel) (Nat.le_of_ble_eq_true rfl) (gva_cons (K := K) inferInstance (gv_v (K := K) rfl ⟨d, rfl, by omega, by omega⟩) (gva_cons (K := K) inferInstance (gv_ixL (K := K) inferInstance (gv_strs (n := 2) ["dot", "num"] (m := 12) (by decide +kernel) rfl (by decide)) (gv_pickC (K := K) (d := 2) rfl (by decide) (by decide)) (by decide)) (gva_cons (K := K) inferInstance (gv_vm (K := K) ((m5.trans m6).trans n2) rfl tf) gva_nil)))) gve_nil)) (by decide)) fun v3 J3 k3 t3 => ?_
  have n3 := n2.trans k3
  refine y_asg n3.r (gv_cat (K := K) (a := 7) (b := 7) (c := 1) (d := 1) inferInstance (gv_v (K := K) rfl t3) (gv_lst (K := K) (e := Trow K) inferInstance (by decide) (gve_cons (K := K) inferInstance (gv_row (K := K) "figure" [.i 0 9, .t] (by decide +kernel) (Nat.le_of_ble_eq_true rfl) (gva_cons (K := K) inferInstance (gv_iw (gv_add gv_int (gv_pickC (K := K) rfl (by decide) (by decide))) (by decide) (by decide)) (gva_cons (K := K) inferInstance (gv_vm (K := K) (((m4.trans m5).trans m6).trans n3) rfl tb) gva_nil))) gve_nil)) (by decide)) fun v4 J4 k4 t4 => ?_
  have n4 := n3.trans k4
  refine y_asg n4.r (gv_cat (K := K) (a := 8) (b := 8) (c := 4) (d := 4) inferInstance (gv_v (K := K) rfl t4) (gv_lst (K := K) (e := Trow K) inferInstance (by decide) (gve_cons (K := K) inferInstance (gv_row (K := K) "table" [.i 1 4, .t] (by decide +kernel) (Nat.le_of_ble_eq_true rfl) (gva_cons (K := K) inferInstance (gv_iw (gv_add gv_int (gv_pickC (K := K) rfl (by decide) (by decide))) (by decide) (by decide)) (gva_cons (K := K) inferInstance (gv_vm (K := K) (((m4.trans m5).trans m6).trans n4) rfl tb) gva_nil))) (gve_cons (K := K) inferInstance (gv_row (K := K) "row" [] (by decide +kernel) (Nat.le_of_ble_eq_true rfl) gva_nil) (gve_cons (K := K) inferInstance (gv_row (K := K) "close" [] (by decide +kernel) (Nat.le_of_ble_eq_true rfl) gva_nil) (gve_cons (K := K) inferInstance (gv_row (K := K) "contents" [.i 0 9] (by decide +kernel) (Nat.le_of_ble_eq_true rfl) (gva_cons (K := K) inferInstance (gv_v (K := K) rfl ⟨d, rfl, by omega, by omega⟩) gva_nil)) gve_nil))))) (by decide)) fun v5 J5 k5 t5 => ?_
  have n5 := n4.trans k5
  refine y_asg n5.r (gv_cat (K := K) (a := 12) (b := 12) (c := 1) (d := 1) inferInstance (gv_v (K := K) rfl t5) (gv_lst (K := K) (e := Trow K) inferInstance (by decide) (gve_cons (K := K) inferInstance (gv_row (K := K) "include" [.q] (by decide +kernel) (Nat.le_of_ble_eq_true rfl) (gva_cons (K := K) inferInstance (gv_vm (K := K) (m6.trans n5) rfl tl) gva_nil)) gve_nil)) (by decide)) fun v6 J6 k6 t6 => ?_
  have n6 := n5.trans k6
  refine y_asg n6.r (gv_cat (K := K) (a := 13) (b := 13) (c := 1) (d := 1) inferInstance (gv_v (K := K) rfl t6) (gv_lst (K := K) (e := Trow K) inferInstance (by decide) (gve_cons (K := K) inferInstance (gv_row (K := K) "cell" [.i 1 4, .i 1 4, .t] (by decide +kernel) (Nat.le_of_ble_eq_true rfl) (gva_cons (K := K) inferInstance (gv_iw (gv_add gv_int (gv_pickC (K := K) rfl (by decide) (by decide))) (by decide) (by decide)) (gva_cons (K := K) inferInstance (gv_iw (gv_add gv_int (gv_pickC (K := K) rfl (by decide) (by decide))) (by decide) (by decide)) (gva_cons (K := K) inferInstance (gv_toks rfl (gva_toks gv_int (by decide) gv_nilq (gv_vm (K := K) (m16.trans n6) rfl tn) (gv_c fun _ => ⟨_, rfl⟩))) gva_nil)))) gve_nil)) (by decide)) fun v7 J7 k7 t7 => ?_
  have n7 := n6.trans k7
  refine y_asg n7.r (gv_cat (K := K) (a := 14) (b := 14) (c := 1) (d := 1) inferInstance (gv_v (K := K) rfl t7) (gv_lst (K := K) (e := Trow K) inferInstance (by decide) (gve_cons (K := K) inferInstance (gv_ixL (K := K) inferInstance (gv_lst (K := K) (e := Trow K) (n := 2) inferInstance (by decide) (gve_cons (K := K) inferInstance (gv_row (K := K) "figures" [] (by decide +kernel) (Nat.le_of_ble_eq_true rfl) gva_nil) (gve_cons (K := K) inferInstance (gv_row (K := K) "index" [] (by decide +kernel) (Nat.le_of_ble_eq_true rfl) gva_nil) gve_nil))) (gv_pickC (K := K) (d := 2) rfl (by decide) (by decide)) (by decide)) gve_nil)) (by decide)) fun v8 J8 k8 t8 => ?_
  have n8 := n7.trans k8
  refine y_asg n8.r (gv_cat (K := K) (a := 15) (b := 15) (c := 1) (d := 1) inferInstance (gv_v (K := K) rfl t8) (gv_lst (K := K) (e := Trow K) inferInstance (by decide) (gve_cons (K := K) inferInstance (gv_ixL (K := K) inferInstance (gv_lst (K := K) (e := Trow K) (n := 2) inferInstance (by decide) (gve_cons (K := K) inferInstance (gv_row (K := K) "endnotes" [] (by decide +kernel) (Nat.le_of_ble_eq_true rfl) gva_nil) (gve_cons (K := K) inferInstance (gv_row (K := K) "break" [] (by decide +kernel) (Nat.le_of_ble_eq_true rfl) gva_nil) gve_nil))) (gv_pickC (K := K) (d := 2) rfl (by decide) (by decide)) (by decide)) gve_nil)) (by decide)) fun v9 J9 k9 t9 => ?_
  have n9 := n8.trans k9
  exact y_ret n9.r (gv_ixL (K := K) (n := 17) inferInstance (gv_cat (K := K) (a := 16) (b := 16) (c := 2) (d := 2) inferInstance (gv_v (K := K) rfl t9) (gv_lst (K := K) (e := Trow K) inferInstance (by decide) (gve_cons (K := K) inferInstance (gv_row (K := K) "when" [.q] (by decide +kernel) (Nat.le_of_ble_eq_true rfl) (gva_cons (K := K) inferInstance (gv_ixL (K := K) inferInstance (gv_strs (n := 3) ["pages", "screen", "plain"] (m := 12) (by decide +kernel) rfl (by decide)) (gv_iw (b' := 2) (gv_sub (gv_v (K := K) rfl ⟨d, rfl, d0, d1⟩) gv_int) (by decide) (by decide)) (by decide)) gva_nil)) (gve_cons (K := K) inferInstance (gv_row (K := K) "done" [] (by decide +kernel) (Nat.le_of_ble_eq_true rfl) gva_nil) gve_nil))) (by decide)) (gv_v (K := K) rfl ⟨sn, rfl, s0, s1⟩) (by decide)) fun v J k2 t => k v J ((m16.trans n9).trans k2) t
end
end Pk
set_option Elab.async false
set_option linter.all false
set_option maxRecDepth 100000
set_option maxHeartbeats 4000000
namespace Pk
open PySem PySem.Spec PyProof.Rows L2 Evl
section
variable {pu : Option Addr} {K : PySem.W.Frag} {σ : L2.St} {H H' H1 H2 : Hp} {ta tb tc te tx tv : TE} {t u : TT} {x y z v : V} {D : Ends} {tu tw tz : TS} {g : TG} {T U S T1 T2 : TP} {es : List TP} {tt : TA} {e e0 : TP} {l : Addr} {o : HO}
theorem gv_lcTup {j : Nat} {vs : List Nat} {lo hi : Nat} (h : Gv pu tx σ H (Tt K e0 lo hi)) (hb : hi ≤ 1000000) (sv : Sv K e) (s0 : Sv K e0) (hw : ∀ x, wipe ((wipe σ vs).set j (some x)) vs = wipe σ vs)
    (he : ∀ (x : V) H0, Mo pu H H0 → e0 x H0 → Gv pu te ((wipe σ vs).set j (some x)) H0 e) : Gv pu (tLc (iTup K tx) (gName j) tYes te vs) σ H (Tl pu e lo hi) := fun H1 m Q q =>
  h H1 m _ fun v H2 m2 tv => by
    obtain ⟨p, xs, rfl, e1, e2, e3, e4⟩ := tv
    refine ⟨p, rfl, ⟨xs, e1⟩, ?_⟩
    refine gv_lcW (K := K) (pu := pu) (walk_tup (K := K) (a := p) (xs := xs)) (sz (by omega)) (fun x H0 => e0 x H0) sv m2.r (fun H0 m0 => m0.t e1) (fun k H0 x H' hk m0 y => ⟨y.1, s0.st _ _ _ (e4 x (List.mem_of_getElem? y.2)) m0.ts⟩) hw (fun x H0 m0 ha => ?_) (fun x H0 m0 ha => ?_) fun D H3 zs hD m3 h3 h4 h5 h6 => ?_
    · exact fun H1 m Q q => q true H1 m.r trivial
    · exact he x H0 ((m.trans m2).trans m0) ha
    · exact q _ H3 (m2.trans m3) ⟨D, zs, rfl, ne_fresh m2.r hD, h3, by rw [h5 rfl]; omega, by omega, h6⟩
theorem gv_strQ {n : Nat} (h : Gv pu te σ H (Tq n)) : Gv pu (tCB rStrX (tCons te tNil)) σ H (Tq n) := fun H1 m Q q => h H1 m _ fun v H2 m2 t => by
  obtain ⟨z, rfl, h1⟩ := t
  exact .inr ⟨z, rfl, q _ H2 m2 ⟨z, rfl, h1⟩⟩
theorem str_dig {i : Int} (h0 : 0 ≤ i) (h1 : i ≤ 9) : i.natAbs.log2 < 1920 ∧ Str.length (toString i) ≤ 1 ∧ PySem.PyData.strOk (toString i : Str) = true := by
  have : i = 0 ∨ i = 1 ∨ i = 2 ∨ i = 3 ∨ i = 4 ∨ i = 5 ∨ i = 6 ∨ i = 7 ∨ i = 8 ∨ i = 9 := by omega
  rcases this with e | e | e | e | e | e | e | e | e | e <;> subst e <;> decide +kernel
theorem gv_strI (h : Gv pu te σ H (Ti 0 9)) : Gv pu (tCB rStrX (tCons te tNil)) σ H (Tq 18) := fun H1 m Q q => h H1 m _ fun v H2 m2 t => by
  obtain ⟨i, rfl, h1, h2⟩ := t
  obtain ⟨d1, d2, d3⟩ := str_dig h1 h2
  exact .inl ⟨i, rfl, d1, q _ H2 m2 ⟨_, rfl, Nat.le_trans d2 (by decide), d3⟩⟩
end
end Pk
set_option Elab.async false
set_option linter.all false
set_option maxRecDepth 100000
set_option maxHeartbeats 4000000
namespace Pk
open PySem PySem.Spec PyProof.Rows L2 Evl
section
variable {P : Program} {w : World} {K : PySem.W.Frag} {mg : Str → Option Value} {base : Heap}
theorem y_ext {pu : Option Addr} {σ : L2.St} {H : Hp} {te : TE} {D : Ends} {i n : Nat} {l : Addr} {ws : List V} (m : Mo pu H H) (h : Gv pu te σ H (Tl pu (Tq 18) 0 n)) (hi : σ[i]? = some (some (.ref l))) (hl : H l = some (.lst ws)) (hp : pu ≠ some l) (hz : ws.length + n ≤ 1000000)
    (kk : ∀ H1 zs, Mo pu H H1 → H1 l = some (.lst ws) → zs.length ≤ n → (∀ z ∈ zs, Tq 18 z H1) → D.nx σ (upd H1 l (.lst (ws ++ zs)))) : tDrop (tBM K "list" rExtend (tVar i) (tCons te tNil)) D σ H :=
  ⟨_, hi, Or.inl ⟨rfl, ws, sq_of hl⟩, h H m _ fun v H1 m1 t => by
    obtain ⟨b, zs, rfl, e1, e2, e3, e4, e5⟩ := t
    exact ⟨l, b, ws, zs, rfl, rfl, m1.ox _ _ hp hl, e2, sz (by omega), kk H1 zs m1 (m1.ox _ _ hp hl) e4 e5⟩⟩
def sp_law_line_of (K : PySem.W.Frag) : Sp := spN [Trow K] (Tq 570)
-- slots: 0 _law_strip_row, 1 _law_words_here, 2 _law_part, 3 _law_one
theorem SC__law_line_of : FnScope ["_law_strip_row", "_law_words_here", "_law_part", "_law_one"] ["_law_strip_row"] (defScope (top 72)) := ⟨rfl, rfl, rfl, by decide +kernel, rfl, by decide +kernel, by decide +kernel⟩
theorem cl_law_line_of (T : Txt w K mg) : Cl P w K mg base CX0 1 "_law_line_of" (sp_law_line_of K) := by
  obtain ⟨fd, F, hm⟩ := T.df 36 "_law_line_of" 72 rfl
  refine cl0 F hm SC__law_line_of (fun vs H Q E h => by obtain ⟨⟨v, _, rfl, tv, rfl⟩, k⟩ := h; rfl) (fun _ _ _ _ _ _ us hl => match us, hl with | [_], _ => rfl) fun cdv A outer s H vs Q E hr h => ?_
  obtain ⟨⟨v, _, rfl, tv, rfl⟩, k⟩ := h
  refine ⟨_, (pss_cons (ps_set (i := 1) SC__law_line_of.nd rfl (Or.inl rfl) (pe_lst pa_nil))
      (pss_cons (ps_for PassesOwn.never rfl (pi_tup (pv 0)) (pg_name (i := 2) SC__law_line_of.nd rfl (Or.inl rfl))
        (pss_one (ps_expr (pe_bm PySem.F.plainAttrs_list PySem.F.slot_list_extend PySem.F.type_list_extend mt_extend (pv 1) (pa_cons (pe_ifExp (pt_val (pe_callB call_is rfl T.f_isinstance boot_isinstance (pa_cons (pv 2) (pa_cons (pe_ty rfl T.f_tuple boot_tuple) pa_nil)))) (pe_lc (own := [("_law_one", 3)]) (g := gName 3) (tt := tYes) rfl SC__law_line_of.nd (pi_tup (pv 2)) (blkOk_by (own := [("_law_one", 3)]) (N := ["_law_strip_row", "_law_words_here", "_law_part", "_law_one"]) (sc := defScope (top 72)) (by decide +kernel)) (fun _ _ _ _ _ => (pg_name (i := 3) SC__law_line_of.nd rfl (Or.inl rfl))) (fun _ _ _ _ _ => pts_nil) (fun _ _ _ _ _ => (pe_callTy call_strX rfl T.f_str boot_str (pa_cons (pv 3) pa_nil)))) (pe_lst (pa_cons (pe_callTy call_strX rfl T.f_str boot_str (pa_cons (pv 2) pa_nil)) pa_nil))) pa_nil)))))
      (pss_one (ps_ret (pe_join pe_str (pv 1)))))), ?_⟩
  obtain ⟨p, w, ps, rfl, hq, w1, w2, p1, hps, _⟩ := tv
  have M : Mo none H H := mo_rn
  refine y_asgN M (gn_lst (K := K) (e := Tq 18) inferInstance (by decide) gve_nil) fun l H1 xs hl m1 g1 x0 x1 hx => ?_
  refine q_forW walk_tup (hwi_tup (ev_var rfl) (m1.t hq)) (fun i σ' H' => Mo none H H' ∧ (∃ ws, H' l = some (.lst ws) ∧ (i < ps.length + 1 → ws.length ≤ i) ∧ ws.length ≤ 30 ∧ ∀ y ∈ ws, Tq 18 y H') ∧ ∃ o2 o3, σ' = [some (.ref p), some (.ref l), o2, o3])
    (fun H2 e2 => ⟨m1.trans (m1.ex e2), ⟨xs, e2 _ _ g1, fun _ => x1, by omega, fun y hy => hx y hy⟩, _, _, rfl⟩) (fun i σ' H' _ q => q.1.t hq) (fun i x σ' H2 H3 hi q y => ?_) (fun σ' H2 q => ?_)
  · obtain ⟨m2, ⟨ws, g2, l1, l2, hw⟩, o2, o3, rfl⟩ := q
    obtain ⟨rfl, y⟩ := y
    have hi2 : i < ps.length + 1 := hi
    have hlw := l1 hi2
    have hnl : (none : Option Addr) ≠ some l := fun e => (nomatch e)
    have fin : ∀ {n : Nat}, ws.length + n ≤ 30 → (i + 1 < ps.length + 1 → n ≤ 1) → ∀ H1 zs, Mo none H3 H1 → H1 l = some (.lst ws) → zs.length ≤ n → (∀ z ∈ zs, Tq 18 z H1) → (Mo none H (upd H1 l (.lst (ws ++ zs))) ∧ (∃ ws', (upd H1 l (.lst (ws ++ zs))) l = some (.lst ws') ∧ (i + 1 < ps.length + 1 → ws'.length ≤ i + 1) ∧ ws'.length ≤ 30 ∧ ∀ y ∈ ws', Tq 18 y (upd H1 l (.lst (ws ++ zs)))) ∧
        ∃ o2' o3', [some (V.ref p), some (.ref l), some x, o3] = [some (.ref p), some (.ref l), o2', o3']) := fun {n} n1 n2 H1 zs mm gg zl zt => ⟨mo_upd (m2.trans mm) hl, ⟨_, upd_same, fun h => by
      have := n2 h
      rw [List.length_append]
      omega, by rw [List.length_append]; omega, fun y hy => (List.mem_append.mp hy).elim (hw y) (zt y)⟩, _, _, rfl⟩
    have hx : Tpart K x H3 ∧ (i + 1 < ps.length + 1 → Tflat x H3) := by
      cases i with
      | zero =>
        cases y
        exact ⟨.inr (.inl ⟨w, rfl, w1, w2⟩), fun _ => .inr ⟨w, rfl, w1, w2⟩⟩
      | succ j =>
        obtain ⟨f1, f2⟩ := hps j x y
        exact ⟨sv_Tpart.st _ _ _ f2 m2.ts, fun h => (sv_Tflat (K := K)).st _ _ _ (f1 (by omega)) m2.ts⟩
    rcases hx.1 with t | t | t
    · have t0 := t
      obtain ⟨j, rfl, _⟩ := t0
      exact y_ext (n := 1) m2.r (gv_if (gt_et (b := false) fun H4 m4 => et_B (ev_isi (ev_var rfl) (.int _) rfl)) (fun h => by cases h) fun _ => gv_lw (gv_lst (K := K) (n := 1) (e := Tq 18) inferInstance (by decide) (gve_cons (K := K) inferInstance (gv_strI (gv_v (K := K) rfl t)) gve_nil)) (by decide) (by decide) fun _ _ h => h) rfl g2 hnl (by omega) (fin (by omega) fun _ => by omega)
    · have t0 := t
      obtain ⟨j, rfl, _⟩ := t0
      exact y_ext (n := 1) m2.r (gv_if (gt_et (b := false) fun H4 m4 => et_B (ev_isi (ev_var rfl) (.str _) rfl)) (fun h => by cases h) fun _ => gv_lw (gv_lst (K := K) (n := 1) (e := Tq 18) inferInstance (by decide) (gve_cons (K := K) inferInstance (gv_qw (gv_strQ (gv_v (K := K) rfl t)) (by decide)) gve_nil)) (by decide) (by decide) fun _ _ h => h) rfl g2 hnl (by omega) (fin (by omega) fun _ => by omega)
    · have t0 := t
      obtain ⟨q, zs, rfl, z1, z2, z3, z4⟩ := t0
      refine y_ext (n := 25) m2.r (gv_if (gt_et (b := true) fun H4 m4 => et_B (ev_isi (ev_var rfl) (.tup (m4.t z1)) rfl)) (fun _ => gv_lcTup (K := K) (e0 := Tq 18) (lo := 0) (hi := 25) (gv_v (K := K) rfl t) (by decide) inferInstance inferInstance (fun x => rfl) fun x H0 m0 h0 => gv_strQ (gv_v (K := K) rfl h0)) (fun h => by cases h)) rfl g2 hnl (by omega) (fin (by omega) fun h => ?_)
      rcases hx.2 h with ⟨_, e, _⟩ | ⟨_, e, _⟩ <;> cases e
  · obtain ⟨m2, ⟨ws, g2, l1, l2, hw⟩, o2, o3, rfl⟩ := q
    refine y_ret m2.r (gv_join (n := 18) (lo := 0) (hi := 30) (by decide +kernel) (gv_v (K := K) rfl ⟨l, ws, rfl, (fun e => (nomatch e)), g2, Nat.zero_le _, l2, hw⟩) (by decide)) fun v H4 m4 t => k v H4 (m2.trans m4) (tq_le (by decide) t)
end
end Pk
set_option Elab.async false
set_option linter.all false
set_option maxRecDepth 100000
set_option maxHeartbeats 4000000
namespace Pk
open PySem PySem.Spec PyProof.Rows L2 Evl
section
variable {P : Program} {w : World} {K : PySem.W.Frag} {mg : Str → Option Value} {base : Heap}
def sp_law_is_name (K : PySem.W.Frag) : Sp := fun vs H Q _ => ∃ (v : V) (t : String), vs = [v] ∧ VT K H v t ∧ GV v ∧ ∀ b H', Same H H' → Q (.bl b) H'
def sp_law_is_word (K : PySem.W.Frag) : Sp := fun vs H Q _ => ∃ (v : V) (t : String), vs = [v] ∧ VT K H v t ∧ GV v ∧ ∀ b H', Same H H' → (b = true → ∀ z, v = .str z → z.length ≠ 0) → Q (.bl b) H'
-- slots: 0 _law_matter, 1 _law_sign
theorem SC__law_is_name : FnScope ["_law_matter", "_law_sign"] ["_law_matter"] (defScope (top 73)) := ⟨rfl, rfl, rfl, by decide +kernel, rfl, by decide +kernel, by decide +kernel⟩
theorem cl_law_is_name (T : Txt w K mg) : Cl P w K mg base CX0 1 "_law_is_name" (sp_law_is_name K) := by
  obtain ⟨fd, F, hm⟩ := T.df 37 "_law_is_name" 73 rfl
  refine cl0 F hm SC__law_is_name (fun vs H Q E h => by obtain ⟨v, t, rfl, ty, hv, k⟩ := h; rfl) (fun _ _ _ _ _ _ us hl => match us, hl with | [_], _ => rfl) fun cdv A outer s H vs Q E hr h => ?_
  obtain ⟨v, t, rfl, ty, hv, k⟩ := h
  refine ⟨_, (pss_cons (ps_if (PW.pt (pw_or (pt_not (pt_val (pe_callB call_is rfl T.f_isinstance boot_isinstance (pa_cons (pv 0) (pa_cons (pe_ty rfl T.f_str boot_str) pa_nil))))) (pw_or1 (pt_not (pt_chain op_lt op_lt pe_int (pe_callB call_len_str rfl T.f_len boot_len (pa_cons (pv 0) pa_nil)) pe_int))))) (pss_one (ps_ret pe_bl)) pss_nil)
      (pss_one (ps_ret (pe_callB (cr_all rfl) rfl T.f_all boot_all (pa_cons (pe_lc (own := [("_law_sign", 1)]) (g := gName 1) (tt := tYes) rfl SC__law_is_name.nd (pi_str (pv 0)) (blkOk_by (own := [("_law_sign", 1)]) (N := ["_law_matter", "_law_sign"]) (sc := defScope (top 73)) (by decide +kernel)) (fun _ _ _ _ _ => (pg_name (i := 1) SC__law_is_name.nd rfl (Or.inl rfl))) (fun _ _ _ _ _ => pts_nil) (fun _ _ _ _ _ => (pe_cmpR op_in_sign (pv 1) pe_str rfl))) pa_nil))))), ?_⟩
  have ty0 := ty
  cases ty
  case str z =>
    exact q_when (et_or (et_not (et_B (ev_isi (ev_var rfl) (.str z) rfl))) fun _ => et_not (et_test (ev_chain ev_c (ev_cb (ea1 (ev_var rfl)) (rc_lenS (hv z rfl))) ev_c))) (fun h H1 e1 => s_ret ev_c fun H2 e2 => k _ H2 (Ex.trans e1 e2)) (fun h H1 e1 => s_ret (ev_all (bs := z.cps.toList.map fun c => decide (c ∈ sSmall.cps.toList)) (el_is (el_str (fun c => .bl (decide (c ∈ sSmall.cps.toList))) (ev_var rfl) (hv z rfl) (fun _ => rfl)
      fun c H0 _ e0 => ev_op (ev_var rfl) ev_c rv_sign) (by rw [List.map_map]; rfl))) fun H2 e2 => k _ H2 (Ex.trans e1 e2))
  all_goals exact q_when (et_noT rfl ty0 rfl rfl) (fun _ H1 e1 => s_ret ev_c fun H2 e2 => k _ H2 (Ex.trans e1 e2)) (fun h => absurd h (by decide))
-- slots: 0 _law_matter, 1 _law_sign
theorem SC__law_is_word : FnScope ["_law_matter", "_law_sign"] ["_law_matter"] (defScope (top 74)) := ⟨rfl, rfl, rfl, by decide +kernel, rfl, by decide +kernel, by decide +kernel⟩
theorem cl_law_is_word (T : Txt w K mg) : Cl P w K mg base CX0 1 "_law_is_word" (sp_law_is_word K) := by
  obtain ⟨fd, F, hm⟩ := T.df 38 "_law_is_word" 74 rfl
  refine cl0 F hm SC__law_is_word (fun vs H Q E h => by obtain ⟨v, t, rfl, ty, hv, k⟩ := h; rfl) (fun _ _ _ _ _ _ us hl => match us, hl with | [_], _ => rfl) fun cdv A outer s H vs Q E hr h => ?_
  obtain ⟨v, t, rfl, ty, hv, k⟩ := h
  refine ⟨_, (pss_cons (ps_if (PW.pt (pw_or (pt_not (pt_val (pe_callB call_is rfl T.f_isinstance boot_isinstance (pa_cons (pv 0) (pa_cons (pe_ty rfl T.f_str boot_str) pa_nil))))) (pw_or1 (pt_not (pt_chain op_lt op_lt pe_int (pe_callB call_len_str rfl T.f_len boot_len (pa_cons (pv 0) pa_nil)) pe_int))))) (pss_one (ps_ret pe_bl)) pss_nil)
      (pss_one (ps_ret (pe_callB (cr_all rfl) rfl T.f_all boot_all (pa_cons (pe_lc (own := [("_law_sign", 1)]) (g := gName 1) (tt := tYes) rfl SC__law_is_word.nd (pi_str (pv 0)) (blkOk_by (own := [("_law_sign", 1)]) (N := ["_law_matter", "_law_sign"]) (sc := defScope (top 74)) (by decide +kernel)) (fun _ _ _ _ _ => (pg_name (i := 1) SC__law_is_word.nd rfl (Or.inl rfl))) (fun _ _ _ _ _ => pts_nil) (fun _ _ _ _ _ => (pe_cmpR op_in_sign (pv 1) pe_str rfl))) pa_nil))))), ?_⟩
  have ty0 := ty
  cases ty
  case str z =>
    exact q_when (et_or (et_not (et_B (ev_isi (ev_var rfl) (.str z) rfl))) fun _ => et_not (et_test (ev_chain ev_c (ev_cb (ea1 (ev_var rfl)) (rc_lenS (hv z rfl))) ev_c))) (fun h H1 e1 => s_ret ev_c fun H2 e2 => k _ H2 (Ex.trans e1 e2) (fun h => by cases h)) (fun h H1 e1 => s_ret (ev_all (bs := z.cps.toList.map fun c => decide (c ∈ sSigns.cps.toList)) (el_is (el_str (fun c => .bl (decide (c ∈ sSigns.cps.toList))) (ev_var rfl) (hv z rfl) (fun _ => rfl)
      fun c H0 _ e0 => ev_op (ev_var rfl) ev_c rv_sign) (by rw [List.map_map]; rfl))) fun H2 e2 => k _ H2 (Ex.trans e1 e2) (fun _ z' ez hz => by cases ez; rw [hz] at h; simp at h))
  all_goals exact q_when (et_noT rfl ty0 rfl rfl) (fun _ H1 e1 => s_ret ev_c fun H2 e2 => k _ H2 (Ex.trans e1 e2) (fun h => by cases h)) (fun h => absurd h (by decide))
end
end Pk
set_option Elab.async false
set_option linter.all false
set_option maxRecDepth 100000
set_option maxHeartbeats 4000000
namespace Pk
open PySem PySem.Spec PyProof.Rows L2 Evl
section
variable {P : Program} {w : World} {K : PySem.W.Frag} {mg : Str → Option Value} {base : Heap}
def sp_law_whole (K : PySem.W.Frag) : Sp := fun vs H Q _ => ∃ (v : V) (t : String) (lo hi : Int), vs = [v, .int lo, .int hi] ∧ VT K H v t ∧ (∀ b, v ≠ .bl b) ∧ ∀ b H', Same H H' → Q (.bl b) H'
-- slots: 0 _law_matter, 1 _law_low, 2 _law_high
theorem SC__law_whole : FnScope ["_law_matter", "_law_low", "_law_high"] ["_law_matter", "_law_low", "_law_high"] (defScope (top 77)) := ⟨rfl, rfl, rfl, by decide +kernel, rfl, by decide +kernel, by decide +kernel⟩
theorem cl_law_whole (T : Txt w K mg) : Cl P w K mg base CX0 1 "_law_whole" (sp_law_whole K) := by
  obtain ⟨fd, F, hm⟩ := T.df 41 "_law_whole" 77 rfl
  refine cl0 F hm SC__law_whole (fun vs H Q E h => by obtain ⟨v, t, lo, hi, rfl, ty, nb, k⟩ := h; rfl) (fun _ _ _ _ _ _ us hl => match us, hl with | [_, _, _], _ => rfl) fun cdv A outer s H vs Q E hr h => ?_
  obtain ⟨v, t, lo, hi, rfl, ty, nb, k⟩ := h
  refine ⟨_, (pss_one (ps_ret (pe_and (pe_callB call_is rfl T.f_isinstance boot_isinstance (pa_cons (pv 0) (pa_cons (pe_ty rfl T.f_int boot_int) pa_nil))) (pe_and (pe_not (pe_callB call_is rfl T.f_isinstance boot_isinstance (pa_cons (pv 0) (pa_cons (pe_ty rfl T.f_bool boot_bool) pa_nil)))) (pe_one (pe_chain op_le op_le (pv 1) (pv 0) (pv 2))))))), ?_⟩
  have ty0 := ty
  cases ty
  case int i =>
    exact s_ret (ev_andV (a := true) (ev_isi (ev_var rfl) ty0 rfl) fun _ => ev_andV (a := true) (ev_notV (a := false) (ev_isi (ev_var rfl) ty0 rfl)) fun _ => ev_chain (ev_var rfl) (ev_var rfl) (ev_var rfl)) fun H1 e1 => k _ H1 e1
  case bl b => exact absurd rfl (nb b)
  all_goals exact s_ret (ev_andV (a := false) (b := false) (ev_isi (ev_var rfl) ty0 rfl) fun h => by cases h) fun H1 e1 => k _ H1 e1
end
end Pk
set_option Elab.async false
set_option linter.all false
set_option maxRecDepth 100000
set_option maxHeartbeats 4000000
namespace Pk
open PySem PySem.Spec PyProof.Rows L2 Evl
section
variable {P : Program} {w : World} {K : PySem.W.Frag} {mg : Str → Option Value} {base : Heap}
theorem gv_bN {pu : Option Addr} {K : PySem.W.Frag} {σ : L2.St} {H : Hp} {te : TE} {E : XK} (h : Gv pu te σ H (Tq 1000)) : Gv pu (tCall (sp_law_is_name K) [] E (tCons te tNil)) σ H Tb := fun H1 m Q q =>
  h H1 m _ fun v H2 m2 t => by
    obtain ⟨z, rfl, z1, z2⟩ := t
    exact ⟨_, _, rfl, .str z, fun z' e => by cases e; exact Nat.le_trans z1 (by decide), fun b H3 s => q _ H3 (m2.trans ((m.trans m2).ex s)) ⟨b, rfl⟩⟩
theorem gv_tupE {pu : Option Addr} {K : PySem.W.Frag} {σ : L2.St} {H : Hp} {tt : TA} {e : TP} {n : Nat} (s : Sv K e) (hn : n ≤ 100) (ha : GvE pu tt σ H e n) : Gv pu (tTup tt) σ H (Tt K e n n) := fun H1 m Q q =>
  ha H1 m _ fun vs H2 m2 hl t => ⟨by rw [hl]; exact sz (Nat.le_trans hn (by decide)), fun p hp => by
    have m3 := (m.trans m2).ex (Ex.new (o := .tup vs) hp)
    exact q _ _ (m2.trans m3) ⟨p, vs, rfl, st_of upd_same, Nat.le_of_eq hl.symm, Nat.le_of_eq hl, fun x hx => s.st _ _ _ (t x hx) m3.ts⟩⟩
theorem gv_strsT {pu : Option Addr} {K : PySem.W.Frag} {σ : L2.St} {H : Hp} {n m : Nat} (l : List Str) (h : l.all (fun z => decide (z.length ≤ m) && PySem.PyData.strOk z) = true) (hl : l.length = n) (hn : n ≤ 100) : Gv pu (tTup (tCs (l.map V.str))) σ H (Tt K (Tq m) n n) :=
  gv_tupE (K := K) inferInstance hn (by
    have := gve_cs (pu := pu) (σ := σ) (H := H) (e := Tq m) (l.map V.str) (fun v hv H => by
      obtain ⟨z, hz, rfl⟩ := List.mem_map.mp hv
      have := List.all_eq_true.mp h z hz
      rw [Bool.and_eq_true, decide_eq_true_iff] at this
      exact ⟨z, rfl, this.1, this.2⟩)
    rw [List.length_map, hl] at this
    exact this)
theorem ok_cut {z : Str} {lo hi : Option Int} (h : PySem.PyData.strOk z = true) : PySem.PyData.strOk (cutS z lo hi) = true := ok_iff.mpr fun c hc => by
  unfold cutS at hc
  rw [List.toList_toArray] at hc
  exact ok_iff.mp h c (List.mem_of_mem_drop (List.mem_of_mem_take hc))
theorem gv_isS {pu : Option Addr} {K : PySem.W.Frag} {σ : L2.St} {H : Hp} {i : Nat} {z : Str} {T : String} (h : σ[i]? = some (some (.str z))) (k : okT T = true := by rfl) : Gv pu (tCB (rIs K) (tCons (tVar i) (tCons (tC (.ty T)) tNil))) σ H Tb := (gv_ev fun H1 _ => ev_isi (ev_var h) (.str z) k).imp fun v _ _ t => ⟨_, t⟩
theorem gv_bW {pu : Option Addr} {K : PySem.W.Frag} {σ : L2.St} {H : Hp} {te : TE} {E : XK} {z : Str} (h : Gv pu te σ H (Te (.str z))) (hz : z.length ≤ 1000) : Gv pu (tCall (sp_law_is_word K) [] E (tCons te tNil)) σ H (fun v _ => ∃ b, v = .bl b ∧ (b = true → z.length ≠ 0)) := fun H1 m Q q =>
  h H1 m _ fun v H2 m2 t => by
    cases t
    exact ⟨_, _, rfl, .str z, fun z' e => by cases e; exact Nat.le_trans hz (by decide), fun b H3 s hb => q _ H3 (m2.trans ((m.trans m2).ex s)) ⟨b, rfl, fun e => hb e z rfl⟩⟩
theorem gv_bW2 {pu : Option Addr} {K : PySem.W.Frag} {σ : L2.St} {H : Hp} {te : TE} {E : XK} (h : Gv pu te σ H (Tq 1000)) : Gv pu (tCall (sp_law_is_word K) [] E (tCons te tNil)) σ H Tb := fun H1 m Q q =>
  h H1 m _ fun v H2 m2 t => by
    obtain ⟨z, rfl, z1, z2⟩ := t
    exact ⟨_, _, rfl, .str z, fun z' e => by cases e; exact Nat.le_trans z1 (by decide), fun b H3 s _ => q _ H3 (m2.trans ((m.trans m2).ex s)) ⟨b, rfl⟩⟩
/-- a text -/
def sp_law_is_token (K : PySem.W.Frag) : Sp := fun vs H Q _ => ∃ z : Str, vs = [.str z] ∧ z.length ≤ 1000 ∧ PySem.PyData.strOk z = true ∧ ∀ b H', Mo none H H' → (b = true → z.length ≠ 0) → Q (.bl b) H'
theorem gv_tok {pu : Option Addr} {K : PySem.W.Frag} {σ : L2.St} {H : Hp} {te : TE} {E : XK} {z : Str} (h : Gv pu te σ H (Te (.str z))) (hz : z.length ≤ 1000) (hk : PySem.PyData.strOk z = true) : Gv pu (tCall (sp_law_is_token K) [] E (tCons te tNil)) σ H (fun v _ => ∃ b, v = .bl b ∧ (b = true → z.length ≠ 0)) := fun H1 m Q q =>
  h H1 m _ fun v H2 m2 t => by
    cases t
    exact ⟨z, rfl, hz, hk, fun b H3 s hb => q _ H3 (m2.trans ((m.trans m2).ex s.toEx)) ⟨b, rfl, hb⟩⟩
-- slots: 0 _law_matter
theorem SC__law_is_token : FnScope ["_law_matter"] ["_law_matter"] (defScope (top 75)) := ⟨rfl, rfl, rfl, by decide +kernel, rfl, by decide +kernel, by decide +kernel⟩
theorem cl_law_is_token (T : Txt w K mg) : Cl P w K mg base CX0 2 "_law_is_token" (sp_law_is_token K) := by
  obtain ⟨fd, F, hm⟩ := T.df 39 "_law_is_token" 75 rfl
  refine cl0 F hm SC__law_is_token (fun vs H Q E h => by obtain ⟨z, rfl, z1, z2, k⟩ := h; rfl) (fun _ _ _ _ _ _ us hl => match us, hl with | [_], _ => rfl) fun cdv A outer s H vs Q E hr h => ?_
  obtain ⟨z, rfl, z1, z2, k⟩ := h
  refine ⟨_, (pss_cons (ps_if (PW.pt (pw_or (pt_val (pc (cl_law_is_word T) hr (by decide) rfl (pa_cons (pv 0) pa_nil))) (pw_or1 (PW.pt (pw_and (pt_val (pe_callB call_is rfl T.f_isinstance boot_isinstance (pa_cons (pv 0) (pa_cons (pe_ty rfl T.f_str boot_str) pa_nil)))) (pw_and1 (pt_cmpR op_in_seq (pv 0) (pe_tup (pa_cons pe_str (pa_cons pe_str (pa_cons pe_str (pa_cons pe_str pa_nil))))) (by rfl)))))))) (pss_one (ps_ret pe_bl)) pss_nil)
      (pss_cons (ps_if (PW.pt (pw_or (pt_not (pt_val (pe_callB call_is rfl T.f_isinstance boot_isinstance (pa_cons (pv 0) (pa_cons (pe_ty rfl T.f_str boot_str) pa_nil))))) (pw_or1 (pt_cmpR op_notIn_seq (pe_slice sl_str (pv 0) po_none (po_some pe_int)) (pe_tup (pa_cons pe_str (pa_cons pe_str (pa_cons pe_str (pa_cons pe_str (pa_cons pe_str pa_nil)))))) (by rfl))))) (pss_one (ps_ret pe_bl)) pss_nil)
      (pss_one (ps_ret (pe_ifExp (pt_cmpR op_eq (pe_ix ix_str (pv 0) pe_int (fun _ _ => rfl)) pe_str (nomark _)) (pc (cl_law_is_word T) hr (by decide) rfl (pa_cons (pe_slice sl_str (pv 0) (po_some pe_int) po_none) pa_nil)) (pc (cl_law_is_name T) hr (by decide) rfl (pa_cons (pe_slice sl_str (pv 0) (po_some pe_int) po_none) pa_nil))))))), ?_⟩
  have M : Mo none H H := mo_rn
  have tz : ∀ {H1 : Hp}, Tq 1000 (.str z) H1 := fun {H1} => ⟨z, rfl, z1, z2⟩
  have hbr : ∀ b, b = inV (.str z) ((["{", "}", "[", "]"] : List Str).map V.str) → b = true → z.length ≠ 0 := fun b e hb hz => by
    rw [hb, inV_strs] at e
    have e1 : z = ("" : Str) := str_nil.mpr hz
    rw [e1] at e
    exact absurd e (by decide +kernel)
  refine y_when (R := fun b => b = true → z.length ≠ 0) M (gt_or (S := fun b => b = true → z.length ≠ 0) (W := fun b => b = true → z.length ≠ 0) (gt_B (gv_bW (gv_e rfl) z1)) (fun _ => gt_and (S := fun _ => True) (W := fun b => b = true → z.length ≠ 0) (gt_b (gv_isS rfl)) (fun _ => gt_Test ((gv_ev fun H2 _ => ev_inU (xs := (["{", "}", "[", "]"] : List Str).map V.str) (ev_var rfl) (eu_tup (ea_cons ev_c (ea_cons ev_c (ea2 ev_c ev_c))) (by decide)) rfl rfl).imp fun v _ _ t => ⟨_, t, hbr _ rfl⟩)) (fun _ h => by cases h) fun b _ h => h) (fun h => h) fun b _ h => h) (fun H1 m1 hz => ?_) (fun H1 m1 _ => ?_)
  · exact y_ret m1.r (gv_c (T := Te (.bl true)) fun _ => rfl) fun v H2 m2 t => by cases t; exact k _ H2 (m1.trans m2) fun _ => hz rfl
  · have hne : ∀ b, b = (!inV (.str (cutS z none (some 1))) ((["@", "#", "~", "&", "^"] : List Str).map V.str)) → b = false → z.length ≠ 0 := fun b e hb hz => by
      rw [hb, inV_strs] at e
      have e1 : cutS z none (some 1) = ("" : Str) := str_nil.mpr (Nat.le_zero.mp (hz ▸ cutS_length z none (some 1)))
      rw [e1] at e
      exact absurd e (by decide +kernel)
    refine y_when (R := fun b => b = false → z.length ≠ 0) m1.r (gt_or (S := fun c => c = false) (W := fun b => b = false → z.length ≠ 0) (gt_et (b := false) fun H2 _ => et_not (a := true) (et_B (ev_isi (ev_var rfl) (.str z) rfl))) (fun _ => gt_Test ((gv_ev fun H2 _ => ev_niU (xs := (["@", "#", "~", "&", "^"] : List Str).map V.str) (ev_slS (ev_var rfl) (Nat.le_trans z1 (by decide)) eo_none (eo_some ev_c)) (eu_tup (ea_cons ev_c (ea_cons ev_c (ea_cons ev_c (ea2 ev_c ev_c)))) (by decide)) rfl rfl).imp fun v _ _ t => ⟨_, t, hne _ rfl⟩)) (fun h => by cases h) fun b _ h => h) (fun H2 m2 _ => ?_) (fun H2 m2 hz => ?_)
    · exact y_ret m2.r (gv_c (T := Te (.bl false)) fun _ => rfl) fun v H3 m3 t => by cases t; exact k _ H3 ((m1.trans m2).trans m3) fun h => by cases h
    · have hl : z.cps.toList.length = z.length := len_l z
      have hc : ∃ c, z.cps.toList[0]? = some c := ⟨_, List.getElem?_eq_getElem (by have := hz rfl; omega)⟩
      obtain ⟨c, hc⟩ := hc
      have hsl : ∀ {H3 : Hp}, Gv none (tSl rSlS (tVar 0) (tPart (tC (.int 1))) tNoPart) [some (.str z)] H3 (Tq 1000) := fun {H3} => (gv_ev fun H4 _ => ev_slS (ev_var rfl) (Nat.le_trans z1 (by decide)) (eo_some ev_c) eo_none).imp fun v _ _ t => ⟨_, t, Nat.le_trans (cutS_length _ _ _) z1, ok_cut z2⟩
      exact y_ret m2.r (gv_if (gt_test ((gv_ev fun H3 _ => ev_op (ev_op (ev_var rfl) ev_c (rv_ixS (Nat.le_trans z1 (by decide)) (atI_nat (j := 0) hc))) ev_c (rv_eq rfl)).imp fun v _ _ t => ⟨_, t⟩)) (fun _ => gv_bW2 hsl) fun _ => gv_bN hsl) fun v H3 m3 t => by obtain ⟨b, rfl⟩ := t; exact k _ H3 ((m1.trans m2).trans m3) fun _ => hz rfl
end
end Pk
set_option Elab.async false
set_option linter.all false
set_option maxRecDepth 100000
set_option maxHeartbeats 4000000
/-! lengths of texts that are cut and joined anew -/
namespace Pk
open PySem
theorem wt_app (a b : List Str) : wt (a ++ b) = wt a + wt b := by
  simp [wt, List.sum_append]
theorem wt_one (x : Str) : wt [x] = x.length + 1 := by simp [wt]
theorem wt_nil : wt [] = 0 := rfl
theorem wt_take_drop (l : List Str) (n : Nat) : wt (l.take n) + wt (l.drop n) = wt l := by
  rw [← wt_app, List.take_append_drop]
theorem wt_rev (l : List Str) : wt l.reverse = wt l := by
  induction l with
  | nil => rfl
  | cons a l ih => rw [List.reverse_cons, wt_app, ih, wt_one, wt_cons]; omega
theorem join_le (c : Nat) (l : List Str) : (Txt.join ⟨#[c]⟩ l).length ≤ wt l := by
  rw [tjoin]
  cases l with
  | nil => exact Nat.zero_le _
  | cons a l =>
    have := wt_join c (a :: l) (by simp)
    omega
theorem join_ge (c : Nat) (l : List Str) : wt l ≤ (Txt.join ⟨#[c]⟩ l).length + 1 := by
  rw [tjoin]
  cases l with
  | nil => exact Nat.zero_le _
  | cons a l =>
    have := wt_join c (a :: l) (by simp)
    omega
theorem wt_at {l : List Str} {i : Nat} {x : Str} (h : l[i]? = some x) : wt (l.take i) + (x.length + 1) + wt (l.drop (i + 1)) = wt l := by
  have hi : i < l.length := (List.getElem?_eq_some_iff.mp h).1
  have e : l.drop i = x :: l.drop (i + 1) := by
    rw [List.drop_eq_getElem_cons hi]
    rw [(List.getElem?_eq_some_iff.mp h).2]
  have := wt_take_drop l i
  rw [e, wt_cons] at this
  omega
theorem wt_set {l : List Str} {i : Nat} {x y : Str} (h : l[i]? = some x) : wt (l.set i y) + (x.length + 1) = wt l + (y.length + 1) := by
  have hi : i < l.length := (List.getElem?_eq_some_iff.mp h).1
  have h2 : (l.set i y)[i]? = some y := by rw [List.getElem?_set_self hi]
  have e1 := wt_at h
  have e2 := wt_at h2
  rw [List.take_set_of_le (Nat.le_refl i), List.drop_set_of_lt (Nat.lt_add_one i)] at e2
  omega
/-- the words of a line, one changed -/
def some3 (S : List Str) (j : Nat) (m : Str) : Int → List Str := fun p =>
  if p = 0 then S.take j ++ [m] ++ S.drop (j + 1) else if p = 1 then S.take j ++ S.drop (j + 1) else if p = 2 then S.take j ++ [m] ++ S.drop j else S
theorem drop_le (S : List Str) (j : Nat) : wt (S.drop (j + 1)) ≤ wt (S.drop j) := by
  have h := wt_take_drop (S.drop j) 1
  rw [List.drop_drop] at h
  omega
theorem some3_wt (S : List Str) (j : Nat) (m : Str) (p : Int) (hm : m.length ≤ 5) : wt (some3 S j m p) ≤ wt S + 6 := by
  have h1 := wt_take_drop S j
  have h2 := drop_le S j
  unfold some3
  split
  · rw [wt_app, wt_app, wt_one]; omega
  · split
    · rw [wt_app]; omega
    · split
      · rw [wt_app, wt_app, wt_one]; omega
      · omega
/-- the lines, some changed -/
def lines3 (L S : List Str) (i j : Nat) : Int → List Str := fun p =>
  if p = 3 then L.take i ++ ((L.take (i + 2)).drop i).reverse ++ L.drop (i + 2)
  else if p = 4 then L.take i ++ [Txt.join bl ((L.take (i + 2)).drop i)] ++ L.drop (i + 2)
  else if p = 5 then L.take i ++ [Txt.join bl (S.take j), Txt.join bl (S.drop j)] ++ L.drop (i + 1) else L
theorem mid_wt (L : List Str) (i : Nat) : wt (L.take i) + wt ((L.take (i + 2)).drop i) + wt (L.drop (i + 2)) = wt L := by
  have h1 := wt_take_drop L (i + 2)
  have h2 := wt_take_drop (L.take (i + 2)) i
  rw [List.take_take, show min i (i + 2) = i by omega] at h2
  omega
theorem lines3_wt (L S : List Str) (i j : Nat) (p : Int) (h : L[i]? = some (Txt.join bl S)) : wt (lines3 L S i j p) ≤ wt L + 2 := by
  have h1 := mid_wt L i
  unfold lines3
  split
  · rw [wt_app, wt_app, wt_rev]; omega
  · split
    · rw [wt_app, wt_app, wt_one]
      have := join_le 32 ((L.take (i + 2)).drop i)
      have e : (Txt.join bl ((L.take (i + 2)).drop i)).length ≤ wt ((L.take (i + 2)).drop i) := this
      omega
    · split
      · rw [wt_app, wt_app, wt_cons, wt_one]
        have h2 := wt_at h
        have a1 : (Txt.join bl (S.take j)).length ≤ wt (S.take j) := join_le 32 _
        have a2 : (Txt.join bl (S.drop j)).length ≤ wt (S.drop j) := join_le 32 _
        have a3 : wt S ≤ (Txt.join bl S).length + 1 := join_ge 32 _
        have a4 := wt_take_drop S j
        omega
      · omega
/-- what stands in the other text is at most ten signs longer -/
theorem other_len {z m : Str} {i j : Nat} {p q : Int} {x : Str} (hx : (Txt.split z lf)[i]? = some x) (hm : m.length ≤ 5) :
    (Txt.join lf (lines3 ((Txt.split z lf).set i (Txt.join bl (some3 (Txt.split x bl) j m p))) (some3 (Txt.split x bl) j m p) i j q)).length ≤ z.length + 10 := by
  have h1 : wt (Txt.split z lf) = z.length + 1 := wt_split z 10
  have h2 : wt (Txt.split x bl) = x.length + 1 := wt_split x 32
  have h3 := some3_wt (Txt.split x bl) j m p hm
  have h4 : (Txt.join bl (some3 (Txt.split x bl) j m p)).length ≤ wt (some3 (Txt.split x bl) j m p) := join_le 32 _
  have h5 := wt_set (y := Txt.join bl (some3 (Txt.split x bl) j m p)) hx
  have hi : i < (Txt.split z lf).length := (List.getElem?_eq_some_iff.mp hx).1
  have h6 := lines3_wt ((Txt.split z lf).set i (Txt.join bl (some3 (Txt.split x bl) j m p))) (some3 (Txt.split x bl) j m p) i j q (by rw [List.getElem?_set_self hi])
  have h7 : (Txt.join lf (lines3 ((Txt.split z lf).set i (Txt.join bl (some3 (Txt.split x bl) j m p))) (some3 (Txt.split x bl) j m p) i j q)).length ≤ _ := join_le 10 _
  omega
theorem join_sep (sep : Str) : ∀ l : List Str, (Txt.join sep l).length ≤ (l.map (·.length)).sum + l.length * sep.length := by
  intro l
  rw [tjoin]
  induction l with
  | nil => exact Nat.zero_le _
  | cons x r ih =>
    cases r with
    | nil =>
      show x.length ≤ _
      simp
    | cons y r =>
      rw [join_two, len_app, len_app]
      simp only [List.map_cons, List.sum_cons, List.length_cons, Nat.add_mul] at ih ⊢
      omega
theorem join_three {sep : Str} (h : sep.length ≤ 3) (x : Str) : (Txt.join sep (Txt.split x bl)).length ≤ 3 * x.length + 3 := by
  have h1 := join_sep sep (Txt.split x bl)
  have h2 : wt (Txt.split x bl) = x.length + 1 := wt_split x 32
  rw [wt_sum] at h2
  have h3 : (Txt.split x bl).length * sep.length ≤ (Txt.split x bl).length * 3 := Nat.mul_le_mul_left _ h
  omega
theorem wt_take_succ {l : List Str} {i : Nat} {x : Str} (h : l[i]? = some x) : wt (l.take (i + 1)) = wt (l.take i) + (x.length + 1) := by
  rw [List.take_succ, h, wt_app]
  show _ + wt [x] = _
  rw [wt_one]
theorem wt_take_le (l : List Str) (i : Nat) : wt (l.take i) ≤ wt l := by
  have := wt_take_drop l i
  omega
end Pk
set_option Elab.async false
set_option linter.all false
set_option maxRecDepth 100000
set_option maxHeartbeats 4000000
namespace Pk
open PySem PySem.Spec PyProof.Rows L2 Evl
section
variable {P : Program} {w : World} {K : PySem.W.Frag} {mg : Str → Option Value} {base : Heap}
theorem pairs_c {σ : L2.St} : ∀ (kvs : List (L2.Key × V)) {H : Hp} {Q : List (V × V) → Hp → Prop}, Q (kvs.map fun q => (kV q.1, q.2)) H → tPairs (kvs.map fun q => (tC (kV q.1), tC q.2)) σ H Q
  | [], _, _, h => h
  | q :: r, H, Q, h => pairs_c r (Q := fun ps H3 => Q ((kV q.1, q.2) :: ps) H3) h
theorem ed_lit {σ : L2.St} {H : Hp} (kvs : List (L2.Key × V)) (hn : kvs.length ≤ 15) : EvD (tDisp (kvs.map fun q => (tC (kV q.1), tC q.2))) σ H (mergeK [] kvs) := fun H1 e Q q p hp =>
  pairs_c kvs ⟨upd_same, kvs, rfl, hn, by
    refine q p _ hp ?_ upd_same
    exact (Ex.mut (Ex.new hp) hp)⟩
theorem y_parD {σ : L2.St} {H : Hp} {ta tb : TE} {tz : TS} {D : Ends} {i j : Nat} {y : V} {kvs : List (L2.Key × V)} (h : EvD ta σ H kvs) (h2 : Ev tb σ H y) (k : ∀ p H1, H p = none → Ex H H1 → H1 p = some (.dK kvs) → tz D ((σ.set i (some (.ref p))).set j (some y)) H1) : tSeq (tPar i j (tCons ta (tCons tb tNil))) tz D σ H := by
  have : tPar i j (tCons ta (tCons tb tNil)) { D with nx := tz D } σ H := by
    show tCons ta (tCons tb tNil) σ H _
    refine h H (Ex.refl _) _ fun p H1 hp e1 g1 => ?_
    refine h2 H1 e1 _ fun H2 e2 => ?_
    exact ⟨_, _, rfl, k p H2 hp (e1.trans e2) (e2 _ _ g1)⟩
  exact this
theorem ev_dget {σ : L2.St} {H : Hp} {ti td : TE} {v : V} {d : Addr} {kvs : List (L2.Key × V)} {k : L2.Key} (ho : Ev td σ H (.ref d)) (hi : Ev ti σ H (kV k)) (hd : H d = some (.dK kvs)) (hv : valV kvs k = some v) : Ev (tDGet td ti) σ H v := fun H1 e Q q =>
  ho H1 e _ fun H2 e2 => hi H2 (e.trans e2) _ fun H3 e3 => ⟨d, v, rfl, .inl ⟨kvs, k, .inl (((e.trans e2).trans e3) _ _ hd), rfl, hv.symm⟩, q H3 (e2.trans e3)⟩
/-- [None, n][int(b)] -/
theorem ev_noneOr {σ : L2.St} {H : Hp} {tn tb : TE} {n : Int} {b : Bool} (hn : Ev tn σ H (.int n)) (hb : Ev tb σ H (.bl b)) :
    Ev (tOp (rIxL K) (tLst (tCons (tC .non) (tCons tn tNil))) (tCB (fun (xs : List V) H (Q : VK) => (∃ i, xs = [V.int i] ∧ Q (V.int i) H) ∨ ∃ k : Bool, xs = [V.bl k] ∧ Q (V.int (if k = true then 1 else 0)) H) (tCons tb tNil))) σ H (if b = true then .int n else .non) :=
  ev_opL1 (Evl.el_lst (ea2 ev_c hn) (Nat.le_of_ble_eq_true rfl)) (y := .int (if b = true then 1 else 0)) (fun H1 e1 => ev_cb (ea1 (hb.mono e1)) fun H2 e2 Q q => .inr ⟨_, rfl, q H2 (Ex.refl _)⟩) fun p H1 hp _ => rv_ixL (sq_of hp) (by cases b <;> rfl)
def sp_law_amiss (K : PySem.W.Frag) : Sp := fun vs H Q _ => ∃ (p : Addr) (xs : List V), vs = [.ref p] ∧ SqT K H p xs ∧ xs.length ≤ 25 ∧ (∀ x ∈ xs, Tq 18 x H) ∧ ∀ v H', Mo none H H' → ((v = .non ∧ ∀ x ∈ xs, ∃ z, x = .str z ∧ z.length ≠ 0) ∨ ∃ i : Int, v = .int i) → Q v H'
def brk : List (L2.Key × V) := [(.inr "{", .str "}"), (.inr "[", .str "]")]
theorem brk_has (z : Str) : (valV brk (.inr z)).isSome = true → z = "{" ∨ z = "[" := by
  intro h
  unfold brk at h
  by_cases h1 : z = "{"
  · exact .inl h1
  · by_cases h2 : z = "["
    · exact .inr h2
    · rw [valV_neg (fun e => h1 (Sum.inr.inj e).symm), valV_neg (fun e => h2 (Sum.inr.inj e).symm), valV_nil] at h
      cases h
-- slots: 0 _law_some, 1 _law_pairs, 2 _law_begun, 3 _law_at
theorem SC__law_amiss : FnScope ["_law_some", "_law_pairs", "_law_begun", "_law_at"] ["_law_some"] (defScope (top 76)) := ⟨rfl, rfl, rfl, by decide +kernel, rfl, by decide +kernel, by decide +kernel⟩
theorem cl_law_amiss (T : Txt w K mg) : Cl P w K mg base CX0 3 "_law_amiss" (sp_law_amiss K) := by
  obtain ⟨fd, F, hm⟩ := T.df 40 "_law_amiss" 76 rfl
  refine cl0 F hm SC__law_amiss (fun vs H Q E h => by obtain ⟨p, xs, rfl, hq, hl, hx, k⟩ := h; rfl) (fun _ _ _ _ _ _ us hl => match us, hl with | [_], _ => rfl) fun cdv A outer s H vs Q E hr h => ?_
  obtain ⟨p, xs, rfl, hq, hl, hx, k⟩ := h
  refine ⟨_, (pss_cons (ps_par (i := 1) (j := 2) rfl SC__law_amiss.nd rfl rfl (by decide) rfl rfl (pa_cons (pe_disp (pps_cons pe_str pe_str (pps_cons pe_str pe_str pps_nil)) (by rfl) (by rfl) (fun z => by cases z) (by decide)) (pa_cons pe_non pa_nil)) (by rfl))
      (pss_cons (ps_for PassesOwn.never rfl (pi_range1 rfl T.f_range (pa_cons (pe_callB call_len_seq rfl T.f_len boot_len (pa_cons (pv 0) pa_nil)) pa_nil)) (pg_name (i := 3) SC__law_amiss.nd rfl (Or.inl rfl))
        (pss_cons (ps_if (pt_not (pt_val (pc (cl_law_is_token T) hr (by decide) rfl (pa_cons (pe_ix ix_tup (pv 0) (pv 3) (fun _ _ => rfl)) pa_nil)))) (pss_one (ps_ret (pv 3))) pss_nil)
        (pss_one (ps_if (pt_cmp (pc_din (hu_of hr) (pe_ix ix_tup (pv 0) (pv 3) (fun _ _ => rfl)) (pv 1))) (pss_cons (ps_if (pt_cmpR op_notN (pv 2) pe_non (nomark _)) (pss_one (ps_ret (pv 3))) pss_nil)
          (pss_one (ps_set (i := 2) SC__law_amiss.nd rfl (Or.inl rfl) (pe_ix ix_tup (pv 0) (pv 3) (fun _ _ => rfl))))) (pss_one (ps_if (pt_cmpR op_in_seq (pe_ix ix_tup (pv 0) (pv 3) (fun _ _ => rfl)) (pe_tup (pa_cons pe_str (pa_cons pe_str pa_nil))) (by rfl)) (pss_cons (ps_if (PW.pt (pw_or (pt_cmpR op_isN (pv 2) pe_non (nomark _)) (pw_or1 (pt_cmpR op_ne (pe_dget (hu_of hr) (pv 1) (pv 2) (fun _ _ => rfl)) (pe_ix ix_tup (pv 0) (pv 3) (fun _ _ => rfl)) (nomark _))))) (pss_one (ps_ret (pv 3))) pss_nil)
            (pss_one (ps_set (i := 2) SC__law_amiss.nd rfl (Or.inl rfl) pe_non))) pss_nil))))))
      (pss_one (ps_ret (pe_ix ix_list (pe_lst (pa_cons pe_non (pa_cons (pe_callB call_len_seq rfl T.f_len boot_len (pa_cons (pv 0) pa_nil)) pa_nil))) (pe_callTy call_int1 rfl T.f_int boot_int (pa_cons (pe_or (pe_cmpR op_notN (pv 2) pe_non (nomark _)) (pe_one (pe_cmpR op_gt (pe_callB call_len_seq rfl T.f_len boot_len (pa_cons (pv 0) pa_nil)) pe_int (nomark _)))) pa_nil)) (fun _ _ => rfl)))))), ?_⟩
  have M : Mo none H H := mo_rn
  refine y_parD (ed_lit brk (by decide)) ev_c fun pd H1 hpd e1 g1 => ?_
  have m1 := Mo.exN e1
  have gd : H1 pd = some (.dK brk) := g1
  refine q_rng (n := xs.length) (ev_cb (ea1 (ev_var rfl)) (rc_lenT (m1.t hq))) (by omega) (by omega) (fun i σ' H' => Ex H1 H' ∧ (∀ (j : Nat) (x : V), j < i → xs[j]? = some x → ∃ z, x = .str z ∧ z.length ≠ 0) ∧ ∃ b o3, (b = .non ∨ b = .str "{" ∨ b = .str "[") ∧ σ' = [some (.ref p), some (.ref pd), some b, o3]) (fun H2 e2 => ⟨e2, fun j x h => absurd h (Nat.not_lt_zero _), _, _, .inl rfl, rfl⟩) (fun i σ' H2 hi q => ?_) (fun σ' H2 q => ?_)
  · obtain ⟨e2, hne, b, o3, hb, rfl⟩ := q
    have m2 := Mo.exN (e1.trans e2)
    have hi2 : i < xs.length := by omega
    obtain ⟨z, ez, z1, z2⟩ := hx _ (List.getElem_mem hi2)
    have hat : xs[i]? = some (.str z) := by rw [List.getElem?_eq_getElem hi2, ez]
    have eat : ∀ {H3 : Hp} {b' : V}, Ex H2 H3 → Ev (tOp (rIxT K) (tVar 0) (tVar 3)) [some (.ref p), some (.ref pd), some b', some (.int i)] H3 (.str z) := fun {H3 b'} e3 => ev_op (ev_var rfl) (ev_var rfl) (rv_ixT ((m2.ex e3).t (m2.t hq)) (atI_nat hat))
    have ret : ∀ {H3 : Hp}, Ex H2 H3 → Q (.int i) H3 := fun {H3} e3 => k _ H3 (m2.trans (m2.ex e3)) (.inr ⟨i, rfl⟩)
    refine y_when (R := fun b => b = false → z.length ≠ 0) m2.r (gt_not (S := fun b => b = true → z.length ≠ 0) (gt_B (gv_tok (K := K) (gv_ev fun H3 m3 => eat m3.toEx) (Nat.le_trans z1 (by decide)) z2)) fun b h e => h (by cases b with | true => rfl | false => cases e)) (fun H3 m3 _ => ?_) (fun H3 m3 hz => ?_)
    · exact s_ret (ev_var rfl) fun H4 e4 => ret (m3.toEx.trans e4)
    · have e3 := m3.toEx
      have hz0 := hz rfl
      have hne' : ∀ (j : Nat) (x : V), j < i + 1 → xs[j]? = some x → ∃ z, x = .str z ∧ z.length ≠ 0 := fun j x hj hx => by
        by_cases h : j < i
        · exact hne j x h hx
        · have : j = i := by omega
          subst this
          rw [hat] at hx
          cases hx
          exact ⟨z, rfl, hz0⟩
      have gd3 : H3 pd = some (.dK brk) := e3 _ _ (e2 _ _ gd)
      refine s_if (et_test (ev_din (k := .inr z) (eat e3) (ev_var rfl) gd3)) (fun hin H4 e4 => ?_) (fun hin H4 e4 => ?_)
      · refine q_when (et_test (ev_op (ev_var rfl) ev_c rv_isn)) (fun _ H5 e5 => ?_) (fun _ H5 e5 => ?_)
        · exact s_ret (ev_var rfl) fun H6 e6 => ret (((e3.trans e4).trans e5).trans e6)
        · refine s_asg (eat ((e3.trans e4).trans e5)) fun H6 e6 => ⟨(((e2.trans e3).trans e4).trans e5).trans e6, hne', _, _, ?_, rfl⟩
          rcases brk_has z hin with rfl | rfl
          · exact .inr (.inl rfl)
          · exact .inr (.inr rfl)
      · refine s_when (et_test (ev_inU (xs := (["}", "]"] : List Str).map V.str) (eat (e3.trans e4)) (eu_tup (ea2 ev_c ev_c) (by decide)) rfl rfl)) (fun _ H5 e5 => ?_) (fun _ H5 e5 => ?_)
        · have gd5 := e5 _ _ (e4 _ _ gd3)
          have fin : ∀ {c : Bool}, EvT (tOr (tTest (tOp (fun x y H Q => y = .non ∧ Q (.bl (decide (x = .non))) H) (tVar 2) (tC .non))) (tTest (tOp rNe (tDGet (tVar 1) (tVar 2)) (tOp (rIxT K) (tVar 0) (tVar 3))))) [some (.ref p), some (.ref pd), some b, some (.int i)] H5 c → True := fun _ => trivial
          have tst : ∃ c, EvT (tOr (tTest (tOp (fun x y H Q => y = .non ∧ Q (.bl (decide (x = .non))) H) (tVar 2) (tC .non))) (tTest (tOp rNe (tDGet (tVar 1) (tVar 2)) (tOp (rIxT K) (tVar 0) (tVar 3))))) [some (.ref p), some (.ref pd), some b, some (.int i)] H5 c := by
            rcases hb with rfl | rfl | rfl
            · exact ⟨_, et_or (b := false) (et_test (ev_op (ev_var rfl) ev_c rv_is)) fun h => by cases h⟩
            · exact ⟨_, et_or (et_test (ev_op (ev_var rfl) ev_c rv_is)) fun _ => et_test (ev_op (ev_dget (k := .inr "{") (ev_var rfl) (ev_var rfl) gd5 rfl) (eat ((e3.trans e4).trans e5)) (rv_ne rfl))⟩
            · exact ⟨_, et_or (et_test (ev_op (ev_var rfl) ev_c rv_is)) fun _ => et_test (ev_op (ev_dget (k := .inr "[") (ev_var rfl) (ev_var rfl) gd5 rfl) (eat ((e3.trans e4).trans e5)) (rv_ne rfl))⟩
          obtain ⟨c, tst⟩ := tst
          refine q_when tst (fun _ H6 e6 => ?_) (fun _ H6 e6 => ?_)
          · exact s_ret (ev_var rfl) fun H7 e7 => ret ((((e3.trans e4).trans e5).trans e6).trans e7)
          · exact s_asg ev_c fun H7 e7 => ⟨((((e2.trans e3).trans e4).trans e5).trans e6).trans e7, hne', _, _, .inl rfl, rfl⟩
        · exact ⟨((e2.trans e3).trans e4).trans e5, hne', _, _, hb, rfl⟩
  · obtain ⟨e2, hne, b, o3, hb, rfl⟩ := q
    have m2 := Mo.exN (e1.trans e2)
    have hlen : ∀ {H3 : Hp}, Ex H2 H3 → Ev (tCB (fun (xs : List V) H (Q : VK) => ∃ p ys, xs = [.ref p] ∧ (SqL K H p ys ∨ SqT K H p ys) ∧ Q (.int ys.length) H) (tCons (tVar 0) tNil)) [some (.ref p), some (.ref pd), some b, o3] H3 (.int (xs.length : Int)) := fun {H3} e3 => ev_cb (ea1 (ev_var rfl)) (rc_lenT ((m2.ex e3).t (m2.t hq)))
    refine s_ret (ev_noneOr (hlen (Ex.refl _)) (ev_orV (ev_op (ev_var rfl) ev_c rv_isn) fun _ => ev_op (hlen (Ex.refl _)) ev_c rv_I0)) fun H3 e3 => k _ H3 (m2.trans (m2.ex e3)) ?_
    have hall : ∀ x ∈ xs, ∃ z, x = .str z ∧ z.length ≠ 0 := fun x hx => by
      obtain ⟨j, hj, rfl⟩ := List.mem_iff_getElem.mp hx
      exact hne j _ (by omega) (List.getElem?_eq_getElem hj)
    split
    · exact .inr ⟨_, rfl⟩
    · exact .inl ⟨rfl, hall⟩
end
end Pk
set_option Elab.async false
set_option linter.all false
set_option maxRecDepth 100000
set_option maxHeartbeats 4000000
/-! Loose promises: tests over texts, and / or, any, all. -/
namespace Pk
open PySem PySem.Spec PyProof.Rows L2 Evl
section
variable {pu : Option Addr} {K : PySem.W.Frag} {σ : L2.St} {H H' H1 H2 : Hp} {ta tb tc te tx tv : TE} {t u : TT} {x y z v : V} {D : Ends} {tu tw tz : TS} {g : TG} {T U S T1 T2 : TP} {es : List TP} {tt : TA} {e e0 : TP} {l : Addr} {o : HO}
theorem gv_eqQ {n m : Nat} (ha : Gv pu ta σ H (Tq n)) (hb : Gv pu tb σ H (Tq m)) : Gv pu (tOp rEq ta tb) σ H Tb :=
  gv_op (K := []) inferInstance ha hb fun x y H2 Q m t1 t2 q => by
    obtain ⟨i, rfl, _⟩ := t1
    obtain ⟨j, rfl, _⟩ := t2
    exact ⟨rfl, q _ H2 m.r ⟨_, rfl⟩⟩
theorem gv_neQ {n m : Nat} (ha : Gv pu ta σ H (Tq n)) (hb : Gv pu tb σ H (Tq m)) : Gv pu (tOp rNe ta tb) σ H Tb :=
  gv_op (K := []) inferInstance ha hb fun x y H2 Q m t1 t2 q => by
    obtain ⟨i, rfl, _⟩ := t1
    obtain ⟨j, rfl, _⟩ := t2
    exact ⟨rfl, q _ H2 m.r ⟨_, rfl⟩⟩
theorem gv_neB (ha : Gv pu ta σ H Tb) (hb : Gv pu tb σ H Tb) : Gv pu (tOp rNe ta tb) σ H Tb :=
  gv_op (K := []) inferInstance ha hb fun x y H2 Q m t1 t2 q => by
    obtain ⟨i, rfl⟩ := t1
    obtain ⟨j, rfl⟩ := t2
    exact ⟨rfl, q _ H2 m.r ⟨_, rfl⟩⟩
theorem gv_neI {a b c d : Int} (ha : Gv pu ta σ H (Ti a b)) (hb : Gv pu tb σ H (Ti c d)) : Gv pu (tOp rNe ta tb) σ H Tb :=
  gv_op (K := []) inferInstance ha hb fun x y H2 Q m t1 t2 q => by
    obtain ⟨i, rfl, _⟩ := t1
    obtain ⟨j, rfl, _⟩ := t2
    exact ⟨rfl, q _ H2 m.r ⟨_, rfl⟩⟩
theorem gv_orV (h1 : Gv pu ta σ H Tb) (h2 : Gv pu tb σ H Tb) : Gv pu (tOrV ta tb) σ H Tb := fun H1 m Q q => h1 H1 m _ fun v H2 m2 t => by
  obtain ⟨b, rfl⟩ := t
  refine ⟨b, rfl, ?_⟩
  cases b with
  | true =>
    show Q (.bl true) H2
    exact q _ H2 m2 ⟨_, rfl⟩
  | false =>
    show tb σ H2 Q
    exact h2 H2 (m.trans m2) Q fun v H3 m3 t => q v H3 (m2.trans m3) t
theorem gv_andV (h1 : Gv pu ta σ H Tb) (h2 : Gv pu tb σ H Tb) : Gv pu (tAndV ta tb) σ H Tb := fun H1 m Q q => h1 H1 m _ fun v H2 m2 t => by
  obtain ⟨b, rfl⟩ := t
  refine ⟨b, rfl, ?_⟩
  cases b with
  | true =>
    show tb σ H2 Q
    exact h2 H2 (m.trans m2) Q fun v H3 m3 t => q v H3 (m2.trans m3) t
  | false =>
    show Q (.bl false) H2
    exact q _ H2 m2 ⟨_, rfl⟩
theorem gv_notV (h1 : Gv pu ta σ H Tb) : Gv pu (tNotV ta) σ H Tb := fun H1 m Q q => h1 H1 m _ fun v H2 m2 t => by
  obtain ⟨b, rfl⟩ := t
  exact ⟨b, rfl, q _ H2 m2 ⟨_, rfl⟩⟩
theorem bools_of : ∀ {xs : List V}, (∀ x ∈ xs, Tb x H) → ∃ bs : List Bool, xs = bs.map V.bl := by
  intro xs
  induction xs with
  | nil => exact fun _ => ⟨[], rfl⟩
  | cons x xs ih =>
    intro h
    obtain ⟨ys, rfl⟩ := ih fun x hx => h x (List.mem_cons_of_mem _ hx)
    obtain ⟨z, rfl⟩ := h _ List.mem_cons_self
    exact ⟨z :: ys, rfl⟩
theorem gv_any {a b : Nat} (h : Gv pu te σ H (Tl pu Tb a b)) : Gv pu (tCB (rAny K) (tCons te tNil)) σ H Tb := fun H1 m Q q =>
  h H1 m _ fun v H2 m2 t => by
    obtain ⟨p, xs, rfl, _, h1, h2, h3, h4⟩ := t
    obtain ⟨bs, rfl⟩ := bools_of h4
    exact ⟨p, bs, rfl, SqL.of h1, q _ H2 m2 ⟨_, rfl⟩⟩
theorem gv_all {a b : Nat} (h : Gv pu te σ H (Tl pu Tb a b)) : Gv pu (tCB (rAll K) (tCons te tNil)) σ H Tb := fun H1 m Q q =>
  h H1 m _ fun v H2 m2 t => by
    obtain ⟨p, xs, rfl, _, h1, h2, h3, h4⟩ := t
    obtain ⟨bs, rfl⟩ := bools_of h4
    exact ⟨p, bs, rfl, SqL.of h1, q _ H2 m2 ⟨_, rfl⟩⟩
/-- is None, is not None, of anything -/
theorem gv_isNone (ha : Gv pu ta σ H T) : Gv pu (tOp (fun x y H Q => y = .non ∧ Q (.bl (decide (x = .non))) H) ta (tC .non)) σ H Tb := fun H1 m Q q => ha H1 m _ fun v H2 m2 t => ⟨rfl, q _ H2 m2 ⟨_, rfl⟩⟩
theorem gv_notNone (ha : Gv pu ta σ H T) : Gv pu (tOp (fun x y H Q => y = .non ∧ Q (.bl (!decide (x = .non))) H) ta (tC .non)) σ H Tb := fun H1 m Q q => ha H1 m _ fun v H2 m2 t => ⟨rfl, q _ H2 m2 ⟨_, rfl⟩⟩
theorem gv_te (h : Gv pu te σ H (Te v)) (t : ∀ H, T v H) : Gv pu te σ H T := h.imp fun w H1 _ e => by
  cases e
  exact t H1
/-- a list written out, walked in a comprehension -/
theorem gv_lcLst {j : Nat} {vs : List Nat} {lo hi : Nat} (h : Gv pu tx σ H (Tl pu e0 lo hi)) (hb : hi ≤ 1000000) (sv : Sv K e) (s0 : Sv K e0) (hw : ∀ x, wipe ((wipe σ vs).set j (some x)) vs = wipe σ vs)
    (he : ∀ (x : V) H0, Mo pu H H0 → e0 x H0 → Gv pu te ((wipe σ vs).set j (some x)) H0 e) : Gv pu (tLc (iList K tx) (gName j) tYes te vs) σ H (Tl pu e lo hi) := fun H1 m Q q =>
  h H1 m _ fun v H2 m2 tv => by
    obtain ⟨p, xs, rfl, np, e1, e2, e3, e4⟩ := tv
    refine ⟨p, rfl, ⟨xs, sq_of e1⟩, ?_⟩
    refine gv_lcW (K := K) (pu := pu) (walk_list (K := K) (a := p) (xs := xs)) (sz (by omega)) (fun x H0 => e0 x H0) sv m2.r (fun H0 m0 => sq_of (m0.ox _ _ np e1)) (fun k H0 x H' hk m0 y => ⟨y.1, s0.st _ _ _ (e4 x (List.mem_of_getElem? y.2)) m0.ts⟩) hw (fun x H0 m0 ha => ?_) (fun x H0 m0 ha => ?_) fun D H3 zs hD m3 h3 h4 h5 h6 => ?_
    · exact fun H1 m Q q => q true H1 m.r trivial
    · exact he x H0 ((m.trans m2).trans m0) ha
    · exact q _ H3 (m2.trans m3) ⟨D, zs, rfl, ne_fresh m2.r hD, h3, by rw [h5 rfl]; omega, by omega, h6⟩
/-- int(a truth) -/
theorem gv_intB (h : Gv pu te σ H Tb) : Gv pu (tCB (fun (xs : List V) H (Q : VK) => (∃ i, xs = [V.int i] ∧ Q (V.int i) H) ∨ ∃ k : Bool, xs = [V.bl k] ∧ Q (V.int (if k = true then 1 else 0)) H) (tCons te tNil)) σ H (Ti 0 1) := fun H1 m Q q => h H1 m _ fun v H2 m2 t => by
  obtain ⟨b, rfl⟩ := t
  refine .inr ⟨b, rfl, q _ H2 m2 ⟨_, rfl, ?_, ?_⟩⟩ <;> cases b <;> decide
end
/-- words that are not empty -/
def Tne : TP := fun v _ => ∃ z : Str, v = .str z ∧ z.length ≤ 18 ∧ PySem.PyData.strOk z = true ∧ z.length ≠ 0
instance sv_Tne {K : PySem.W.Frag} : Sv K Tne := ⟨fun _ _ _ h _ => h⟩
end Pk
set_option Elab.async false
set_option linter.all false
set_option maxRecDepth 100000
set_option maxHeartbeats 4000000
namespace Pk
open PySem PySem.Spec PyProof.Rows L2 Evl
section
variable {P : Program} {w : World} {K : PySem.W.Frag} {mg : Str → Option Value} {base : Heap}
def sp_law_are_tokens (K : PySem.W.Frag) : Sp := spN [Tpart K, Tq 12] Tb
theorem gv_am {pu : Option Addr} {σ : L2.St} {H : Hp} {E : XK} {i : Nat} {p : Addr} {xs : List V} (h : σ[i]? = some (some (.ref p))) (hq : SqT K H p xs) (hl : xs.length ≤ 25) (hx : ∀ x ∈ xs, Tq 18 x H) :
    Gv pu (tOp (fun x y H Q => y = .non ∧ Q (.bl (!decide (x = .non))) H) (tCall (sp_law_amiss K) [] E (tCons (tVar i) tNil)) (tC .non)) σ H (fun v _ => ∃ b, v = .bl b ∧ (b = false → ∀ x ∈ xs, ∃ z, x = .str z ∧ z.length ≠ 0)) := fun H1 m Q q => by
  refine ⟨_, h, ?_⟩
  refine ⟨p, xs, rfl, m.t hq, hl, fun x hx' => (sv_Tq (K := K)).st _ _ _ (hx x hx') m.ts, fun v H2 m2 t => ⟨rfl, q _ H2 ((m.r).ex m2.toEx) ⟨_, rfl, fun hb => ?_⟩⟩⟩
  rcases t with ⟨_, t⟩ | ⟨i, rfl⟩
  · exact t
  · simp at hb
-- slots: 0 _law_matter, 1 _law_sort, 2 _law_part
theorem SC__law_are_tokens : FnScope ["_law_matter", "_law_sort", "_law_part"] ["_law_matter", "_law_sort"] (defScope (top 78)) := ⟨rfl, rfl, rfl, by decide +kernel, rfl, by decide +kernel, by decide +kernel⟩
theorem cl_law_are_tokens (T : Txt w K mg) : Cl P w K mg base CX0 4 "_law_are_tokens" (sp_law_are_tokens K) := by
  obtain ⟨fd, F, hm⟩ := T.df 42 "_law_are_tokens" 78 rfl
  refine cl0 F hm SC__law_are_tokens (fun vs H Q E h => by obtain ⟨⟨v, _, rfl, tv, vs', _, rfl, ts, rfl⟩, k⟩ := h; rfl) (fun _ _ _ _ _ _ us hl => match us, hl with | [_, _], _ => rfl) fun cdv A outer s H vs Q E hr h => ?_
  obtain ⟨⟨v, _, rfl, tv, vs', _, rfl, ts, rfl⟩, k⟩ := h
  refine ⟨_, (pss_cons (ps_if (PW.pt (pw_or (pt_not (pt_val (pe_callB call_is rfl T.f_isinstance boot_isinstance (pa_cons (pv 0) (pa_cons (pe_ty rfl T.f_tuple boot_tuple) pa_nil))))) (pw_or1 (pt_cmpR op_notN (pc (cl_law_amiss T) hr (by decide) rfl (pa_cons (pv 0) pa_nil)) pe_non (nomark _))))) (pss_one (ps_ret pe_bl)) pss_nil)
      (pss_cons (ps_if (pt_cmpR op_eq (pv 1) pe_str (nomark _)) (pss_one (ps_ret pe_bl)) pss_nil)
      (pss_cons (ps_if (pt_val (pe_callB (cr_any rfl) rfl T.f_any boot_any (pa_cons (pe_lc (own := [("_law_part", 2)]) (g := gName 2) (tt := tYes) rfl SC__law_are_tokens.nd (pi_tup (pv 0)) (blkOk_by (own := [("_law_part", 2)]) (N := ["_law_matter", "_law_sort", "_law_part"]) (sc := defScope (top 78)) (by decide +kernel)) (fun _ _ _ _ _ => (pg_name (i := 2) SC__law_are_tokens.nd rfl (Or.inl rfl))) (fun _ _ _ _ _ => pts_nil) (fun _ _ _ _ _ => (pe_cmpR (show OpR _ _ (rIn K false) from op_in_seq) (pv 2) (pe_tup (pa_cons pe_str (pa_cons pe_str (pa_cons pe_str (pa_cons pe_str pa_nil))))) (by rfl)))) pa_nil))) (pss_one (ps_ret pe_bl)) pss_nil)
      (pss_one (ps_ret (pe_or (pe_cmpR op_eq (pv 1) pe_str (nomark _)) (pe_one (pe_not (pe_callB (cr_any rfl) rfl T.f_any boot_any (pa_cons (pe_lc (own := [("_law_part", 2)]) (g := gName 2) (tt := tYes) rfl SC__law_are_tokens.nd (pi_tup (pv 0)) (blkOk_by (own := [("_law_part", 2)]) (N := ["_law_matter", "_law_sort", "_law_part"]) (sc := defScope (top 78)) (by decide +kernel)) (fun _ _ _ _ _ => (pg_name (i := 2) SC__law_are_tokens.nd rfl (Or.inl rfl))) (fun _ _ _ _ _ => pts_nil) (fun _ _ _ _ _ => (pe_cmpR op_in_sign (pe_ix ix_str (pv 2) pe_int (fun _ _ => rfl)) pe_str rfl))) pa_nil)))))))))), ?_⟩
  have M : Mo none H H := mo_rn
  have ret : ∀ {H1 : Hp} {b : Bool}, Mo none H H1 → Q (.bl b) H1 := fun {H1 b} m => k _ H1 m ⟨b, rfl⟩
  rcases tv with ⟨i, rfl, _⟩ | ⟨z, rfl, _⟩ | ⟨p, xs, rfl, hq, _, hl, hx⟩
  · exact q_when (et_noT rfl (.int i) rfl rfl) (fun _ H1 e1 => s_ret ev_c fun H2 e2 => ret (Mo.exN (e1.trans e2))) (fun h => absurd h (by decide))
  · exact q_when (et_noT rfl (.str z) rfl rfl) (fun _ H1 e1 => s_ret ev_c fun H2 e2 => ret (Mo.exN (e1.trans e2))) (fun h => absurd h (by decide))
  · refine y_when (R := fun b => b = false → ∀ x ∈ xs, ∃ z, x = .str z ∧ z.length ≠ 0) M (gt_or (S := fun c => c = false) (W := fun b => b = false → ∀ x ∈ xs, ∃ z, x = .str z ∧ z.length ≠ 0) (gt_et (b := false) fun H2 m2 => et_not (a := true) (et_B (ev_isi (ev_var rfl) (.tup (m2.t hq)) rfl))) (fun _ => gt_Test (gv_am rfl hq hl hx)) (fun h => by cases h) fun b _ h => h) (fun H1 m1 _ => ?_) (fun H1 m1 hne => ?_)
    · exact y_ret m1.r (gv_c (T := Te (.bl false)) fun _ => rfl) fun v H2 m2 t => by cases t; exact ret (m1.trans m2)
    · have hne := hne rfl
      have tt : ∀ {H2 : Hp}, Mo none H1 H2 → Tt K Tne 0 25 (.ref p) H2 := fun {H2} m2 => ⟨p, xs, rfl, (m1.trans m2).t hq, Nat.zero_le _, hl, fun x hx' => by
        obtain ⟨z, e, z1, z2⟩ := hx x hx'
        obtain ⟨z', e', h0⟩ := hne x hx'
        subst e
        cases e'
        exact ⟨z, rfl, z1, z2, h0⟩⟩
      refine y_when m1.r (gt_test (gv_eqQ (gv_v (K := K) rfl ts) (gv_q (n := 12) (by decide) (by decide +kernel)))) (fun H2 m2 _ => ?_) (fun H2 m2 _ => ?_)
      · exact y_ret m2.r (gv_c (T := Te (.bl true)) fun _ => rfl) fun v H3 m3 t => by cases t; exact ret ((m1.trans m2).trans m3)
      · refine y_when m2.r (gt_b (gv_any (K := K) (gv_lcTup (K := K) (e0 := Tne) (lo := 0) (hi := 25) (e := Tb) (gv_v (K := K) rfl (tt m2)) (by decide) inferInstance inferInstance (fun x => rfl) fun x H0 m0 h0 =>
          gv_inT (K := K) (T1 := Tne) inferInstance (gv_v (K := K) rfl h0) (gv_strsT (K := K) (n := 4) ["{", "}", "[", "]"] (m := 1) (by decide +kernel) rfl (by decide)) (fun _ _ t => by obtain ⟨z, rfl, _⟩ := t; rfl) fun _ _ => flat_q))) (fun H3 m3 _ => ?_) (fun H3 m3 _ => ?_)
        · exact y_ret m3.r (gv_c (T := Te (.bl false)) fun _ => rfl) fun v H4 m4 t => by cases t; exact ret (((m1.trans m2).trans m3).trans m4)
        · refine y_ret m3.r (gv_orV (gv_eqQ (gv_v (K := K) rfl ts) (gv_q (n := 12) (by decide) (by decide +kernel))) (gv_notV (gv_any (K := K) (gv_lcTup (K := K) (e0 := Tne) (lo := 0) (hi := 25) (e := Tb) (gv_v (K := K) rfl (tt (m2.trans m3))) (by decide) inferInstance inferInstance (fun x => rfl) fun x H0 m0 h0 => ?_)))) fun v H4 m4 t => by
            obtain ⟨b, rfl⟩ := t
            exact ret (((m1.trans m2).trans m3).trans m4)
          obtain ⟨z, rfl, z1, z2, z0⟩ := h0
          have hl : z.cps.toList.length = z.length := len_l z
          have hc : ∃ c, z.cps.toList[0]? = some c := ⟨_, List.getElem?_eq_getElem (by omega)⟩
          obtain ⟨c, hc⟩ := hc
          exact gv_te (gv_ev fun H5 _ => ev_op (ev_op (ev_var rfl) ev_c (rv_ixS (Nat.le_trans z1 (by decide)) (atI_nat (j := 0) hc))) ev_c rv_sign) fun _ => ⟨_, rfl⟩
end
end Pk
set_option Elab.async false
set_option linter.all false
set_option maxRecDepth 100000
set_option maxHeartbeats 4000000
/-! a text times a number, list.count of texts, a tuple times a number. -/
namespace Pk
open PySem PySem.Spec PyProof.Rows L2 Evl
section
variable {X : Cx}
def rMulS : R2 := fun x y H Q => ∃ (z : Str) (k : Int), x = .str z ∧ y = .int k ∧ z.length ≤ 1000 ∧ 0 ≤ k ∧ k ≤ 1000 ∧ Q (.str (Txt.mul z k)) H
theorem mulOk {z : Str} {k : Int} (hz : z.length ≤ 1000) (h0 : 0 ≤ k) (h1 : k ≤ 1000) : MulOk z k := by
  refine ⟨?_, fun _ _ => ?_, fun _ _ => ?_⟩
  · rw [decide_eq_false (by omega), decide_eq_false (by omega)]; rfl
  · rename_i hk _
    have : (1000 : Int) * k ≤ 2 ^ 63 - 1 := by omega
    have h2 : (1000 : Int) ≤ (2 ^ 63 - 1) / k := (Int.le_ediv_iff_mul_le (by omega)).mpr this
    omega
  · unfold Builtin.Str.tooLong
    have h3 : z.length * k.toNat ≤ 1000 * 1000 := Nat.mul_le_mul hz (by omega)
    have h4 : 1000000 ≤ sizeLine := by decide
    exact decide_eq_false (by omega)
theorem op_muls : OpR X (binaryOp .Mult) rMulS := by
  intro pins s σ H x y v u Q I rx ry h
  obtain ⟨z, k, rfl, rfl, h1, h2, h3, q⟩ := h
  obtain ⟨t, rfl⟩ := rx
  obtain ⟨t2, rfl⟩ := ry
  exact SB.mul (mulOk h1 h2 h3) fun t' kk => ⟨.str _, H, I.tok _, ⟨t', rfl⟩, q⟩
theorem strs_dp {K : PySem.W.Frag} {H : Hp} : ∀ ys : List Str, DpAll K H (ys.map V.str) (ys.map PyData.str)
  | [] => .nil
  | y :: r => .cons (.str y) (strs_dp r)
def rCntS (K : PySem.W.Frag) : V → List V → Hp → VK → Prop := fun x xs H Q => ∃ (p : Addr) (ys : List Str) (z : Str), x = .ref p ∧ xs = [.str z] ∧ SqL K H p (ys.map V.str) ∧ (∀ y ∈ ys, PySem.PyData.strOk y = true) ∧ PySem.PyData.strOk z = true ∧ ∀ n : Nat, n ≤ ys.length → Q (.int n) H
theorem plain_strs : ∀ ys : List Str, PyData.plainAll (ys.map PyData.str) = true
  | [] => rfl
  | y :: r => by
    have := plain_strs r
    simp [PyData.plainAll, PyData.plain] at this ⊢
    exact this
theorem depth_strs : ∀ ys : List Str, PyData.depthAll (ys.map PyData.str) = 0
  | [] => by simp [PyData.depthAll]
  | y :: r => by
    have := depth_strs r
    simp [PyData.depthAll, PyData.depth, this]
theorem mt_countS (hu : X.A.units + 65 < cLine) : MtR X "list.count" (rCntS X.K) := by
  intro pins s σ H x xs v us Q I rx rxs h
  obtain ⟨p, ys, z, rfl, rfl, hs, ho, hz, q⟩ := h
  obtain ⟨u, rfl, ru⟩ := rxs.one
  obtain ⟨as, r1⟩ := Dp.reads I (.list (ys.map PyData.str)) _ _ (.lst hs (strs_dp ys)) rx
  obtain ⟨bs, r2⟩ := Dp.reads I (.str z) _ _ (.str z) ru
  cases r1 with
  | list h1 h2 h3 h4 =>
    refine SeqAt.count_list_data ⟨_, h1, h2, _, h3⟩ h4 r2 (plain_strs ys) rfl (by rw [depth_strs]; omega) ?_
    refine ⟨.int _, H, I.tok _, ⟨s.toks, rfl⟩, q _ ?_⟩
    have := List.countP_le_length (p := fun y => PyData.eqv y (.str z)) (l := ys.map PyData.str)
    rw [List.length_map] at this
    exact this
end
end Pk
set_option Elab.async false
set_option linter.all false
set_option maxRecDepth 100000
set_option maxHeartbeats 4000000
/-! Loose promises: dicts with text keys. -/
namespace Pk
open PySem PySem.Spec PyProof.Rows L2 Evl
section
variable {pu : Option Addr} {K : PySem.W.Frag} {σ : L2.St} {H H' H0 H1 H2 : Hp} {ta tb tc te tx tv : TE} {t u : TT} {x y z v : V} {D : Ends} {tu tw tz : TS} {g : TG} {T U S T1 T2 : TP} {es : List TP} {tt : TA} {e e0 : TP} {l d : Addr} {o : HO}
/-- a dict at d is written: tuples stay -/
theorem st_updD {b l : Addr} {xs : List V} {ys zs : List (L2.Key × V)} (hl : H l = some (.dK ys)) (h : SqT K H b xs) : SqT K (upd H l (.dK zs)) b xs := by
  rcases h with h | h
  · refine Or.inl ?_
    rcases h with h | ⟨o, h⟩
    · exact Or.inl (by rw [upd_ne (fun e => by subst e; rw [hl] at h; cases h)]; exact h)
    · exact Or.inr ⟨o, by rw [upd_ne (fun e => by subst e; rw [hl] at h; cases h)]; exact h⟩
  · exact Or.inr h
/-- a new dict, its values of kind e, these keys in it -/
structure DS (K : PySem.W.Frag) (pu : Option Addr) (H0 : Hp) (d : Addr) (e : TP) (n : Nat) (ks : List Str) (H : Hp) : Prop where
  fr : H0 d = none
  mo : Mo pu H0 H
  at_ : ∃ kvs : List (L2.Key × V), H d = some (.dK kvs) ∧ kvs.length ≤ n ∧ (∀ k v, valV kvs k = some v → e v H) ∧ ∀ k ∈ ks, (valV kvs (.inr k)).isSome = true
theorem DS.go {n : Nat} {ks : List Str} (h : DS K pu H0 d e n ks H) (s : Sb K pu e) (m : Mo pu H H1) : DS K pu H0 d e n ks H1 := by
  obtain ⟨kvs, h1, h2, h3, h4⟩ := h.at_
  exact ⟨h.fr, h.mo.trans m, kvs, m.ox _ _ (ne_fr h.mo h.fr) h1, h2, fun k v hv => s.st _ _ _ (h3 k v hv) m, h4⟩
theorem DS.put {n : Nat} {ks : List Str} {k : Str} (h : DS K pu H0 d e n ks H) (s : Sv K e) (hv : e v H) (hn : n < 1000000) : ∃ H', DPut H d (.str k) v H' ∧ DS K pu H0 d e (n + 1) (k :: ks) H' ∧ Ts K H H' := by
  obtain ⟨kvs, h1, h2, h3, h4⟩ := h.at_
  have ts : Ts K H (upd H d (.dK (putK kvs (.inr k) v))) := fun b xs q => st_updD h1 q
  refine ⟨_, .inl ⟨kvs, .inr k, h1, rfl, szl (by omega), rfl⟩, ⟨h.fr, mo_upd h.mo h.fr, _, upd_same, ?_, fun k' v' hv' => ?_, fun k' hk' => ?_⟩, ts⟩
  · have := length_putK kvs (.inr k) v
    omega
  · rw [valV_put] at hv'
    split at hv'
    · cases hv'
      exact s.st _ _ _ hv ts
    · exact s.st _ _ _ (h3 k' v' hv') ts
  · rw [valV_put]
    split
    · rfl
    · rename_i hne
      rcases List.mem_cons.mp hk' with rfl | hk'
      · exact absurd rfl hne
      · exact h4 k' hk'
theorem DS.wd {n m : Nat} {ks : List Str} (h : DS K pu H0 d e n ks H) (hn : n ≤ m) : DS K pu H0 d e m ks H := by
  obtain ⟨kvs, h1, h2, h3, h4⟩ := h.at_
  exact ⟨h.fr, h.mo, kvs, h1, by omega, h3, h4⟩
/-- the pairs of a display -/
def GvPs (pu : Option Addr) (trs : List (TE × TE)) (σ : L2.St) (H : Hp) (e : TP) (ks : List Str) : Prop := ∀ H1, Mo pu H H1 → ∀ Q : List (V × V) → Hp → Prop, (∀ (kvs : List (L2.Key × V)) H2, Mo pu H1 H2 → kvs.map (·.1) = ks.map (Sum.inr : Str → L2.Key) → (∀ q ∈ kvs, e q.2 H2) → Q (kvs.map fun q => (kV q.1, q.2)) H2) → tPairs trs σ H1 Q
theorem gp_nil : GvPs pu [] σ H e [] := fun H1 m Q q => q [] H1 m.r rfl fun q hq => by cases hq
theorem gp_cons {k : Str} {ks : List Str} {r : List (TE × TE)} (s : Sb K pu e) (h : Gv pu te σ H e) (hr : GvPs pu r σ H e ks) : GvPs pu ((tC (.str k), te) :: r) σ H e (k :: ks) := fun H1 m Q q =>
  h H1 m _ fun v H2 m2 t => hr H2 (m.trans m2) _ fun kvs H3 m3 hk hv => q ((.inr k, v) :: kvs) H3 (m2.trans m3) (by rw [List.map_cons, List.map_cons, hk]) fun z hz => by
    rcases List.mem_cons.mp hz with rfl | hz
    · exact s.st _ _ _ t m3
    · exact hv z hz
theorem merge_len : ∀ (more kvs : List (L2.Key × V)), (mergeK kvs more).length ≤ kvs.length + more.length
  | [], kvs => Nat.le_refl _
  | p :: r, kvs => by
    have h1 := merge_len r (putK kvs p.1 p.2)
    have h2 := length_putK kvs p.1 p.2
    show (mergeK (putK kvs p.1 p.2) r).length ≤ _
    rw [List.length_cons]
    omega
theorem merge_val : ∀ (more kvs : List (L2.Key × V)) (k : L2.Key) (v : V), valV (mergeK kvs more) k = some v → valV kvs k = some v ∨ ∃ q ∈ more, q.2 = v
  | [], kvs, k, v, h => .inl h
  | p :: r, kvs, k, v, h => by
    rcases merge_val r (putK kvs p.1 p.2) k v h with h1 | ⟨q, hq, e⟩
    · rw [valV_put] at h1
      split at h1
      · cases h1
        exact .inr ⟨p, List.mem_cons_self, rfl⟩
      · exact .inl h1
    · exact .inr ⟨q, List.mem_cons_of_mem _ hq, e⟩
theorem merge_has : ∀ (more kvs : List (L2.Key × V)) (k : L2.Key), ((valV kvs k).isSome = true ∨ k ∈ more.map (·.1)) → (valV (mergeK kvs more) k).isSome = true
  | [], kvs, k, h => h.elim id fun h => by cases h
  | p :: r, kvs, k, h => merge_has r (putK kvs p.1 p.2) k (by
    rw [valV_put]
    split
    · exact .inl rfl
    · rename_i hne
      rcases h with h | h
      · exact .inl h
      · rcases List.mem_cons.mp h with rfl | h
        · exact absurd rfl hne
        · exact .inr h)
/-- x = {..} -/
theorem y_disp {i : Nat} {trs : List (TE × TE)} {ks : List Str} (m : Mo pu H H) (s : Sv K e) (h : ∀ H1, Mo pu H H1 → GvPs pu trs σ H1 e ks) (hn : ks.length ≤ 15) (k : ∀ d H1, DS K pu H d e 15 ks H1 → tz D (σ.set i (some (.ref d))) H1) : tSeq (tAsg (tDisp trs) (gName i)) tz D σ H := fun d hd => by
  have m1 : Mo pu H (upd H d (.dK [])) := m.ex (Ex.new hd)
  refine h _ m1 _ m1.r _ fun kvs H2 m2 hk hv => ⟨m2.ox _ _ (ne_fr m hd) upd_same, kvs, rfl, ?_, k d _ ⟨hd, mo_upd (m1.trans m2) hd, _, upd_same, ?_, fun k' v' hv' => ?_, fun k' hk' => ?_⟩⟩
  · have := congrArg List.length hk
    rw [List.length_map, List.length_map] at this
    omega
  · have h1 := merge_len kvs []
    have := congrArg List.length hk
    rw [List.length_map, List.length_map] at this
    rw [List.length_nil] at h1
    omega
  · rcases merge_val kvs [] k' v' hv' with h1 | ⟨q, hq, rfl⟩
    · cases h1
    · exact s.st _ _ _ (hv q hq) fun b xs q => st_updD (m2.ox _ _ (ne_fr m hd) upd_same) q
  · refine merge_has kvs [] _ (.inr ?_)
    rw [hk]
    exact List.mem_map.mpr ⟨k', hk', rfl⟩
/-- d[k] = .. in a target -/
theorem g_dset {i n : Nat} {ks : List Str} {k : Str} {R : L2.St → Hp → Prop} (h : DS K pu H0 d e n ks H) (s : Sv K e) (hi : σ[i]? = some (some (.ref d))) (hv : e v H) (hn : n < 1000000) (kk : ∀ H1, DS K pu H0 d e (n + 1) (k :: ks) H1 → Ts K H H1 → R σ H1) : gSub (tVar i) (tC (.str k)) rSetD v σ H R := by
  obtain ⟨H', h1, h2, h3⟩ := h.put s hv hn (k := k)
  exact ⟨_, hi, d, H', rfl, h1, kk H' h2 h3⟩
theorem gset_cons {i n : Nat} {ks : List Str} {k : Str} {gs : TGs} {xs : List V} {R : L2.St → Hp → Prop} (h : DS K pu H0 d e n ks H) (s : Sv K e) (hi : σ[i]? = some (some (.ref d))) (hv : e v H) (hn : n < 1000000) (kk : ∀ H1, DS K pu H0 d e (n + 1) (k :: ks) H1 → Ts K H H1 → gs xs σ H1 R) : gCons (gSub (tVar i) (tC (.str k)) rSetD) gs (v :: xs) σ H R :=
  ⟨v, xs, rfl, g_dset h s hi hv hn kk⟩
/-- d[k1], d[k2] = .., .. -/
theorem y_dset2 {i n : Nat} {ks : List Str} {k1 k2 : Str} (h : DS K pu H0 d e n ks H) (s : Sv K e) (hi : σ[i]? = some (some (.ref d))) (hn : n < 1000) (ht : GvA pu tt σ H [e, e]) (kk : ∀ H1, DS K pu H0 d e (n + 2) (k2 :: k1 :: ks) H1 → tz D σ H1) :
    tSeq (tAsg (tTup tt) (gTup K 2 (gCons (gSub (tVar i) (tC (.str k1)) rSetD) (gCons (gSub (tVar i) (tC (.str k2)) rSetD) gNil)))) tz D σ H := ht H h.mo.r _ fun vs H1 m1 t => by
  obtain ⟨v1, _, rfl, t1, v2, _, rfl, t2, rfl⟩ := t
  refine ⟨by show 2 ≤ sizeLine; decide, fun p hp => ⟨p, _, rfl, st_of upd_same, rfl, ?_⟩⟩
  have m2 := m1.r.ex (Ex.new (o := .tup [v1, v2]) hp)
  exact gset_cons ((h.go inferInstance m1).go inferInstance m2) s hi (s.st _ _ _ t1 m2.ts) (by omega) fun H2 h2 ts2 => gset_cons h2 s hi (s.st _ _ _ (s.st _ _ _ t2 m2.ts) ts2) (by omega) fun H3 h3 ts3 => ⟨rfl, kk H3 h3⟩
theorem y_dset3 {i n : Nat} {ks : List Str} {k1 k2 k3 : Str} (h : DS K pu H0 d e n ks H) (s : Sv K e) (hi : σ[i]? = some (some (.ref d))) (hn : n < 1000) (ht : GvA pu tt σ H [e, e, e]) (kk : ∀ H1, DS K pu H0 d e (n + 3) (k3 :: k2 :: k1 :: ks) H1 → tz D σ H1) :
    tSeq (tAsg (tTup tt) (gTup K 3 (gCons (gSub (tVar i) (tC (.str k1)) rSetD) (gCons (gSub (tVar i) (tC (.str k2)) rSetD) (gCons (gSub (tVar i) (tC (.str k3)) rSetD) gNil))))) tz D σ H := ht H h.mo.r _ fun vs H1 m1 t => by
  obtain ⟨v1, _, rfl, t1, v2, _, rfl, t2, v3, _, rfl, t3, rfl⟩ := t
  refine ⟨by show 3 ≤ sizeLine; decide, fun p hp => ⟨p, _, rfl, st_of upd_same, rfl, ?_⟩⟩
  have m2 := m1.r.ex (Ex.new (o := .tup [v1, v2, v3]) hp)
  exact gset_cons ((h.go inferInstance m1).go inferInstance m2) s hi (s.st _ _ _ t1 m2.ts) (by omega) fun H2 h2 ts2 => gset_cons h2 s hi (s.st _ _ _ (s.st _ _ _ t2 m2.ts) ts2) (by omega) fun H3 h3 ts3 => gset_cons h3 s hi (s.st _ _ _ (s.st _ _ _ (s.st _ _ _ t3 m2.ts) ts2) ts3) (by omega) fun H4 h4 ts4 => ⟨rfl, kk H4 h4⟩
end
end Pk
set_option Elab.async false
set_option linter.all false
set_option maxRecDepth 100000
set_option maxHeartbeats 4000000
namespace Pk
open PySem PySem.Spec PyProof.Rows L2 Evl
def codes : List Str := ["6", "4", "2", "3", "1-3", "1-6", "1-4", "tokens", "plain", "bare", "name", "align", "sort", "kind", "way", "counted", "style"]
def Tcode : TP := fun v _ => ∃ c ∈ codes, v = .str c
instance sv_Tcode {K : PySem.W.Frag} : Sv K Tcode := ⟨fun _ _ _ h _ => h⟩
def Tform (K : PySem.W.Frag) : TP := Tt K Tcode 0 5
instance sv_Tform {K : PySem.W.Frag} : Sv K (Tform K) := inferInstanceAs (Sv K (Tt K Tcode 0 5))
section
variable {P : Program} {w : World} {K : PySem.W.Frag} {mg : Str → Option Value} {base : Heap}
theorem gv_code {pu : Option Addr} {σ : L2.St} {H : Hp} {c : Str} (h : decide (c ∈ codes) = true) : Gv pu (tC (.str c)) σ H Tcode := gv_c fun _ => ⟨c, of_decide_eq_true h, rfl⟩
theorem gv_form {pu : Option Addr} {σ : L2.St} {H : Hp} (l : List Str) (h : l.all (fun c => decide (c ∈ codes)) = true) (hl : l.length ≤ 5) : Gv pu (tTup (tCs (l.map V.str))) σ H (Tform K) :=
  gv_tw (K := K) (gv_tupE (K := K) (n := l.length) (e := Tcode) inferInstance (by omega) (by
    have := gve_cs (pu := pu) (σ := σ) (H := H) (e := Tcode) (l.map V.str) (fun v hv H => by
      obtain ⟨z, hz, rfl⟩ := List.mem_map.mp hv
      exact ⟨z, of_decide_eq_true (List.all_eq_true.mp h z hz), rfl⟩)
    rw [List.length_map] at this
    exact this)) (by omega) hl fun _ _ h => h
def sp_law_forms (K : PySem.W.Frag) : Sp := fun vs H Q _ => vs = [] ∧ ∀ d H' (kvs : List (L2.Key × V)), Mo none H H' → H' d = some (.dK kvs) → (∀ k v, valV kvs k = some v → Tform K v H') → Q (.ref d) H'
-- slots: 0 _law_forms_here, 1 _law_word
theorem SC__law_forms : FnScope ["_law_forms_here", "_law_word"] [] (defScope (top 80)) := ⟨rfl, rfl, rfl, by decide +kernel, rfl, by decide +kernel, by decide +kernel⟩
theorem cl_law_forms (T : Txt w K mg) : Cl P w K mg base CX0 1 "_law_forms" (sp_law_forms K) := by
  obtain ⟨fd, F, hm⟩ := T.df 44 "_law_forms" 80 rfl
  refine cl0 F hm SC__law_forms (fun vs H Q E h => by obtain ⟨rfl, k⟩ := h; rfl) (fun _ _ _ _ _ _ us hl => match us, hl with | [], _ => rfl) fun cdv A outer s H vs Q E hr h => ?_
  obtain ⟨rfl, k⟩ := h
  refine ⟨_, (pss_cons (ps_set (i := 0) SC__law_forms.nd rfl (Or.inl rfl) (pe_disp (pps_cons pe_str (pe_tup (pa_cons pe_str (pa_cons pe_str (pa_cons pe_str (pa_cons pe_str (pa_cons pe_str pa_nil)))))) (pps_cons pe_str (pe_tup (pa_cons pe_str (pa_cons pe_str (pa_cons pe_str pa_nil)))) (pps_cons pe_str (pe_tup (pa_cons pe_str (pa_cons pe_str pa_nil))) pps_nil))) (by rfl) (by rfl) (fun z => by cases z) (by decide)))
      (pss_cons (ps_asg (pe_tup (pa_cons (pe_tup (pa_cons pe_str (pa_cons pe_str pa_nil))) (pa_cons (pe_tup (pa_cons pe_str (pa_cons pe_str (pa_cons pe_str pa_nil)))) (pa_cons (pe_tup (pa_cons pe_str (pa_cons pe_str pa_nil))) pa_nil)))) (pg_tup (n := 3) rfl (pgs_cons (pg_sub (pv 0) pe_str (set_dict (hu_of hr))) (pgs_cons (pg_sub (pv 0) pe_str (set_dict (hu_of hr))) (pgs_cons (pg_sub (pv 0) pe_str (set_dict (hu_of hr))) pgs_nil)))))
      (pss_cons (ps_asg (pe_tup (pa_cons (pe_tup (pa_cons pe_str (pa_cons pe_str pa_nil))) (pa_cons (pe_tup (pa_cons pe_str (pa_cons pe_str (pa_cons pe_str pa_nil)))) (pa_cons (pe_tup (pa_cons pe_str pa_nil)) pa_nil)))) (pg_tup (n := 3) rfl (pgs_cons (pg_sub (pv 0) pe_str (set_dict (hu_of hr))) (pgs_cons (pg_sub (pv 0) pe_str (set_dict (hu_of hr))) (pgs_cons (pg_sub (pv 0) pe_str (set_dict (hu_of hr))) pgs_nil)))))
      (pss_cons (ps_asg (pe_tup (pa_cons (pe_tup (pa_cons pe_str pa_nil)) (pa_cons (pe_tup (pa_cons pe_str pa_nil)) pa_nil))) (pg_tup (n := 2) rfl (pgs_cons (pg_sub (pv 0) pe_str (set_dict (hu_of hr))) (pgs_cons (pg_sub (pv 0) pe_str (set_dict (hu_of hr))) pgs_nil))))
      (pss_cons (ps_for PassesOwn.never rfl (pi_list (pe_lst (pa_cons pe_str (pa_cons pe_str (pa_cons pe_str (pa_cons pe_str (pa_cons pe_str (pa_cons pe_str (pa_cons pe_str pa_nil))))))))) (pg_name (i := 1) SC__law_forms.nd rfl (Or.inl rfl))
        (pss_one (ps_dput (hu_of hr) (pv 0) (pv 1) (pe_tup pa_nil) rfl)))
      (pss_one (ps_ret (pv 0)))))))), ?_⟩
  have M : Mo none H H := mo_rn
  refine y_disp (K := K) (e := Tform K) (ks := ["style", "counter", "head"]) M inferInstance (fun H1 m1 => gp_cons (K := K) inferInstance (gv_form (K := K) ["name", "6", "4", "2", "align"] (by decide +kernel) (by decide)) (gp_cons (K := K) inferInstance (gv_form (K := K) ["counted", "way", "3"] (by decide +kernel) (by decide)) (gp_cons (K := K) inferInstance (gv_form (K := K) ["1-3", "bare"] (by decide +kernel) (by decide)) gp_nil))) (by decide) fun d H1 d1 => ?_
  refine y_dset3 (K := K) d1 inferInstance rfl (by decide) (gva_cons (K := K) inferInstance (gv_form (K := K) ["style", "tokens"] (by decide +kernel) (by decide)) (gva_cons (K := K) inferInstance (gv_form (K := K) ["1-3", "sort", "tokens"] (by decide +kernel) (by decide)) (gva_cons (K := K) inferInstance (gv_form (K := K) ["1-6", "bare"] (by decide +kernel) (by decide)) gva_nil))) fun H2 d2 => ?_
  refine y_dset3 (K := K) d2 inferInstance rfl (by decide) (gva_cons (K := K) inferInstance (gv_form (K := K) ["1-4", "bare"] (by decide +kernel) (by decide)) (gva_cons (K := K) inferInstance (gv_form (K := K) ["1-4", "1-4", "plain"] (by decide +kernel) (by decide)) (gva_cons (K := K) inferInstance (gv_form (K := K) ["1-3"] (by decide +kernel) (by decide)) gva_nil))) fun H3 d3 => ?_
  refine y_dset2 (K := K) d3 inferInstance rfl (by decide) (gva_cons (K := K) inferInstance (gv_form (K := K) ["name"] (by decide +kernel) (by decide)) (gva_cons (K := K) inferInstance (gv_form (K := K) ["kind"] (by decide +kernel) (by decide)) gva_nil)) fun H4 d4 => ?_
  refine q_forE (Evl.el_lst (vs := (["row", "close", "figures", "index", "endnotes", "break", "done"] : List Str).map V.str) (ea_cons ev_c (ea_cons ev_c (ea_cons ev_c (ea_cons ev_c (ea_cons ev_c (ea2 ev_c ev_c)))))) (by decide) H4 (Ex.refl _) _ fun p H5 hp5 e5 h5 => ?_)
  have d5 := d4.go (K := K) inferInstance (d4.mo.r.ex e5)
  refine q_forW walk_list (hwi_list ev_c (sq_of h5)) (fun i σ' H' => p ≠ d ∧ (∃ ks, DS K none H d (Tform K) (40 + i) ks H') ∧ H' p = some (.lst ((["row", "close", "figures", "index", "endnotes", "break", "done"] : List Str).map V.str)) ∧ ∃ o, σ' = [some (.ref d), o]) (fun H6 e6 => ?_) (fun i σ' H' _ q => sq_of q.2.2.1) (fun i x σ' H6 H7 hi q y => ?_) (fun σ' H6 q => ?_)
  · refine ⟨fun e => ?_, ⟨_, (d5.go (K := K) inferInstance (d5.mo.r.ex e6)).wd (by omega)⟩, e6 _ _ h5, _, rfl⟩
    obtain ⟨kvs, h1, _⟩ := d4.at_
    rw [← e, hp5] at h1
    cases h1
  · obtain ⟨hne, ⟨ks, d6⟩, hp6, o, rfl⟩ := q
    obtain ⟨rfl, y⟩ := y
    have hi7 : i < 7 := hi
    have hx : ∃ z : Str, x = .str z := by
      obtain ⟨z, _, e⟩ := List.mem_map.mp (List.mem_of_getElem? y)
      exact ⟨z, e.symm⟩
    obtain ⟨z, rfl⟩ := hx
    show sDPut _ _ _ _ _ _
    refine gv_form (K := K) [] rfl (by decide) H7 d6.mo.r _ fun v H8 m8 tv => ?_
    have d8 := d6.go (K := K) inferInstance m8
    obtain ⟨H9, hd9, d9, ts9⟩ := d8.put (K := K) inferInstance tv (by omega) (k := z)
    refine ⟨_, rfl, _, rfl, d, H9, rfl, hd9, hne, ⟨_, d9⟩, ?_, _, rfl⟩
    have hp8 := m8.ox p _ (by simp) hp6
    rcases hd9 with ⟨kvs, k', h1, h2, h3, rfl⟩ | ⟨kvs, k', b, h1, h2, h3, h4, rfl⟩
    · rw [upd_ne hne]; exact hp8
    · rw [upd_ne hne]; exact hp8
  · obtain ⟨hne, ⟨ks, d6⟩, hp6, o, rfl⟩ := q
    refine s_ret (ev_var rfl) fun H7 e7 => ?_
    have d7 := d6.go (K := K) inferInstance (d6.mo.r.ex e7)
    obtain ⟨kvs, h1, h2, h3, h4⟩ := d7.at_
    exact k d H7 kvs d7.mo h1 h3
end
end Pk
set_option Elab.async false
set_option linter.all false
set_option maxRecDepth 100000
set_option maxHeartbeats 4000000
namespace Pk
open PySem PySem.Spec PyProof.Rows L2 Evl
def lowK : List (L2.Key × V) := [(.inr "6", .int 0), (.inr "4", .int 0), (.inr "2", .int 0), (.inr "3", .int 0), (.inr "1-3", .int 1), (.inr "1-6", .int 1), (.inr "1-4", .int 1)]
def lowT : List (Str × Int × Nat × Int) := [("6", 0, 54, 6), ("4", 0, 52, 4), ("2", 0, 50, 2), ("3", 0, 51, 3), ("1-3", 1, 51, 3), ("1-6", 1, 54, 6), ("1-4", 1, 52, 4)]
def toksC : List Str := ["tokens", "plain", "bare"]
def restC : List Str := ["counted", "way", "align", "sort", "kind"]
theorem low_all : codes.all (fun c => !(valV lowK (.inr c)).isSome || lowT.any fun q => decide (q.1 = c) && (decide (valV lowK (.inr c) = some (.int q.2.1)) && (decide (atI c.cps.toList (-1) = some q.2.2.1) && decide (PySem.intText? ⟨#[q.2.2.1]⟩ = some q.2.2.2)))) = true := by decide +kernel
theorem low_fact {c : Str} (hc : c ∈ codes) (h : (valV lowK (.inr c)).isSome = true) : ∃ (lo : Int) (s : Nat) (n : Int), valV lowK (.inr c) = some (.int lo) ∧ atI c.cps.toList (-1) = some s ∧ PySem.intText? ⟨#[s]⟩ = some n := by
  have h1 := List.all_eq_true.mp low_all c hc
  rw [h, Bool.not_true, Bool.false_or] at h1
  obtain ⟨q, _, hq⟩ := List.any_eq_true.mp h1
  simp only [Bool.and_eq_true, decide_eq_true_iff] at hq
  exact ⟨q.2.1, q.2.2.1, q.2.2.2, hq.2.1, hq.2.2.1, hq.2.2.2⟩
theorem rest_all : codes.all (fun c => (valV lowK (.inr c)).isSome || (decide (c ∈ toksC) || (decide (c = "name") || (decide (c = "style") || decide (c ∈ restC))))) = true := by decide +kernel
theorem len_all : codes.all (fun c => decide (c.length ≤ 12) && PySem.PyData.strOk c) = true := by decide +kernel
section
variable {pu : Option Addr} {K : PySem.W.Frag} {σ : L2.St} {H H' H0 H1 H2 : Hp} {ta tb tc te tx tv ty td : TE} {t u : TT} {x y z v : V} {D : Ends} {tu tw tz : TS} {T U S T1 T2 e : TP} {es : List TP} {tt : TA} {d : Addr}
theorem gv_spA {sp : Sp} {vs : List V} {E : XK} (ha : ∀ H1, Mo pu H H1 → EvA tt σ H1 vs) (hs : ∀ H1 (Q : VK), Mo pu H H1 → (∀ v H2, Mo pu H1 H2 → T v H2 → Q v H2) → sp vs H1 Q E) : Gv pu (tCall sp [] E tt) σ H T := fun H1 m Q q =>
  ha H1 m H1 (Ex.refl _) _ fun H2 e2 => by
    rw [List.append_nil]
    exact hs H2 Q (m.trans (m.ex e2)) fun v H3 m3 t => q v H3 ((m.ex e2).trans m3) t
theorem gv_dget {i n : Nat} {ks : List Str} {k : Str} (h : DS K pu H0 d e n ks H) (s : Sb K pu e) (hi : σ[i]? = some (some (.ref d))) (hk : Gv pu ty σ H (Te (.str k))) (hm : k ∈ ks) : Gv pu (tDGet (tVar i) ty) σ H e := fun H1 m Q q => ⟨_, hi, hk H1 m _ fun y H2 m2 t => by
  cases t
  have h2 := h.go s (m.trans m2)
  obtain ⟨kvs, h1, _, h3, h4⟩ := h2.at_
  obtain ⟨v, hv⟩ := Option.isSome_iff_exists.mp (h4 k hm)
  exact ⟨d, v, rfl, .inl ⟨kvs, .inr k, .inl h1, rfl, hv.symm⟩, q v H2 m2 (h3 _ _ hv)⟩⟩
theorem q_asgD {i : Nat} {kvs : List (L2.Key × V)} (h : EvD te σ H kvs) (k : ∀ p H1, H p = none → Ex H H1 → H1 p = some (.dK kvs) → tz D (σ.set i (some (.ref p))) H1) : tSeq (tAsg te (gName i)) tz D σ H := h H (Ex.refl _) _ k
theorem part_vt (t : Tpart K v H) : ∃ s, VT K H v s ∧ GV v ∧ (∀ b, v ≠ .bl b) ∧ ((∃ z, v = .str z ∧ Tq 12 (.str z) H) ∨ isT s "str" = false) := by
  rcases t with ⟨i, rfl, _⟩ | ⟨z, rfl, z1, z2⟩ | ⟨p, xs, rfl, hq, _⟩
  · exact ⟨_, .int i, fun z e => (by cases e), fun b e => (by cases e), .inr rfl⟩
  · exact ⟨_, .str z, fun z e => (by cases e; exact Nat.le_trans z1 (by decide)), fun b e => (by cases e), .inl ⟨z, rfl, z, rfl, z1, z2⟩⟩
  · exact ⟨_, .tup hq, fun z e => (by cases e), fun b e => (by cases e), .inr rfl⟩
theorem gv_nm {E : XK} {i : Nat} (h : σ[i]? = some (some v)) (t : Tpart K v H) : Gv pu (tCall (sp_law_is_name K) [] E (tCons (tVar i) tNil)) σ H Tb := gv_spA (vs := [v]) (fun H1 _ => ea1 (ev_var h)) fun H1 Q m q => by
  obtain ⟨s, ty, hg, _⟩ := part_vt ((sv_Tpart (K := K)).st _ _ _ t m.ts)
  exact ⟨v, s, rfl, ty, hg, fun b H2 e => q _ H2 (m.r.ex e) ⟨b, rfl⟩⟩
end
section
variable {P : Program} {w : World} {K : PySem.W.Frag} {mg : Str → Option Value} {base : Heap}
def sp_law_is_part (K : PySem.W.Frag) : Sp := spN [Tcode, Tpart K] Tb
-- slots: 0 _law_code, 1 _law_matter, 2 _law_low, 3 _law_some
theorem SC__law_is_part : FnScope ["_law_code", "_law_matter", "_law_low", "_law_some"] ["_law_code", "_law_matter"] (defScope (top 79)) := ⟨rfl, rfl, rfl, by decide +kernel, rfl, by decide +kernel, by decide +kernel⟩
theorem cl_law_is_part (T : Txt w K mg) : Cl P w K mg base CX0 5 "_law_is_part" (sp_law_is_part K) := by
  obtain ⟨fd, F, hm⟩ := T.df 43 "_law_is_part" 79 rfl
  refine cl0 F hm SC__law_is_part (fun vs H Q E h => by obtain ⟨⟨_, _, rfl, ⟨c, hc, rfl⟩, v, _, rfl, tv, rfl⟩, k⟩ := h; rfl) (fun _ _ _ _ _ _ us hl => match us, hl with | [_, _], _ => rfl) fun cdv A outer s H vs Q E hr h => ?_
  obtain ⟨⟨_, _, rfl, ⟨c, hc, rfl⟩, v, _, rfl, tv, rfl⟩, k⟩ := h
  refine ⟨_, (pss_cons (ps_set (i := 2) SC__law_is_part.nd rfl (Or.inl rfl) (pe_disp (pps_cons pe_str pe_int (pps_cons pe_str pe_int (pps_cons pe_str pe_int (pps_cons pe_str pe_int (pps_cons pe_str pe_int (pps_cons pe_str pe_int (pps_cons pe_str pe_int pps_nil))))))) (by rfl) (by rfl) (fun z => by cases z) (by decide)))
      (pss_cons (ps_if (pt_cmp (pc_din (hu_of hr) (pv 0) (pv 2))) (pss_one (ps_ret (pc (cl_law_whole T) hr (by decide) rfl (pa_cons (pv 1) (pa_cons (pe_dget (hu_of hr) (pv 2) (pv 0) (fun _ _ => rfl)) (pa_cons (pe_callTy call_int_str rfl T.f_int boot_int (pa_cons (pe_ix ix_str (pv 0) (pe_un un_neg pe_int) (fun _ _ => rfl)) pa_nil)) pa_nil)))))) pss_nil)
      (pss_cons (ps_if (pt_cmpR op_in_seq (pv 0) (pe_tup (pa_cons pe_str (pa_cons pe_str (pa_cons pe_str pa_nil)))) (by rfl)) (pss_one (ps_ret (pc (cl_law_are_tokens T) hr (by decide) rfl (pa_cons (pv 1) (pa_cons (pv 0) pa_nil))))) pss_nil)
      (pss_cons (ps_if (pt_cmpR op_eq (pv 0) pe_str (nomark _)) (pss_one (ps_ret (pc (cl_law_is_name T) hr (by decide) rfl (pa_cons (pv 1) pa_nil)))) pss_nil)
      (pss_cons (ps_set (i := 3) SC__law_is_part.nd rfl (Or.inl rfl) (pe_disp (pps_cons pe_str (pe_tup (pa_cons pe_str (pa_cons pe_str (pa_cons pe_str pa_nil)))) (pps_cons pe_str (pe_tup (pa_cons pe_str (pa_cons pe_str pa_nil))) (pps_cons pe_str (pe_tup (pa_cons pe_str (pa_cons pe_str (pa_cons pe_str pa_nil)))) pps_nil))) (by rfl) (by rfl) (fun z => by cases z) (by decide)))
      (pss_cons (ps_asg (pe_tup (pa_cons (pe_tup (pa_cons pe_str (pa_cons pe_str (pa_cons pe_str pa_nil)))) (pa_cons (pe_tup (pa_cons pe_str (pa_cons pe_str (pa_cons pe_str (pa_cons pe_str (pa_cons pe_str (pa_cons pe_str pa_nil))))))) pa_nil))) (pg_tup (n := 2) rfl (pgs_cons (pg_sub (pv 3) pe_str (set_dict (hu_of hr))) (pgs_cons (pg_sub (pv 3) pe_str (set_dict (hu_of hr))) pgs_nil))))
      (pss_cons (ps_if (pt_cmpR op_eq (pv 0) pe_str (nomark _)) (pss_one (ps_ret (pe_or (pc (cl_law_is_name T) hr (by decide) rfl (pa_cons (pv 1) pa_nil)) (pe_one (pe_and (pe_callB call_is rfl T.f_isinstance boot_isinstance (pa_cons (pv 1) (pa_cons (pe_ty rfl T.f_str boot_str) pa_nil))) (pe_one (pe_cmpR op_eq (pv 1) pe_str (nomark _)))))))) pss_nil)
      (pss_one (ps_ret (pe_and (pe_callB call_is rfl T.f_isinstance boot_isinstance (pa_cons (pv 1) (pa_cons (pe_ty rfl T.f_str boot_str) pa_nil))) (pe_one (pe_cmpR op_in_seq (pv 1) (pe_dget (hu_of hr) (pv 3) (pv 0) (fun _ _ => rfl)) (by rfl))))))))))))), ?_⟩
  have hcl : Tq 12 (.str c) H := by
    have := List.all_eq_true.mp len_all c hc
    rw [Bool.and_eq_true, decide_eq_true_iff] at this
    exact ⟨c, rfl, this.1, this.2⟩
  have fin : ∀ {H1 : Hp}, Mo none H H1 → ∀ v H2, Mo none H1 H2 → Tb v H2 → Q v H2 := fun {H1} m v H2 m2 t => k v H2 (m.trans m2) t
  refine q_asgD (ed_lit lowK (by decide)) fun pd H1 hpd e1 g1 => ?_
  have gd : H1 pd = some (.dK lowK) := g1
  refine q_when (et_test (ev_din (k := .inr c) (ev_var rfl) (ev_var rfl) gd)) (fun hin H2 e2 => ?_) (fun hin H2 e2 => ?_)
  · have m2 := Mo.exN (e1.trans e2)
    obtain ⟨lo, s, n, h1, h2, h3⟩ := low_fact hc hin
    refine y_ret m2.r (T := Tb) (gv_spA (vs := [v, .int lo, .int n]) (fun H3 m3 => ea_cons (ev_var rfl) (ea2 (ev_dget (k := .inr c) (ev_var rfl) (ev_var rfl) (m3.toEx _ _ (e2 _ _ gd)) h1) (ev_cb (ea1 (ev_op (ev_var rfl) (ev_un ev_c ru_neg) (rv_ixS (by
      obtain ⟨_, e, h, _⟩ := hcl
      cases e
      exact Nat.le_trans h (by decide)) h2))) fun H4 e4 Q q => ⟨_, n, rfl, h3, by show (1 : Nat) ≤ 640; decide, q H4 (Ex.refl _)⟩))) fun H3 Q m3 q => ?_) (fin m2)
    obtain ⟨s, ty, hg, nb, _⟩ := part_vt ((sv_Tpart (K := K)).st _ _ _ tv (m2.trans m3).ts)
    exact ⟨v, s, lo, n, rfl, ty, nb, fun b H4 e4 => q _ H4 (m3.r.ex e4) ⟨b, rfl⟩⟩
  · refine q_when (et_test (ev_inU (xs := toksC.map V.str) (ev_var rfl) (eu_tup (ea_cons ev_c (ea2 ev_c ev_c)) (by decide)) rfl rfl)) (fun _ H3 e3 => ?_) (fun ht H3 e3 => ?_)
    · have m3 := Mo.exN ((e1.trans e2).trans e3)
      exact y_ret m3.r (gv_callN (es := [Tpart K, Tq 12]) (T := Tb) (gva_cons (K := K) inferInstance (gv_v (K := K) rfl ((sv_Tpart (K := K)).st _ _ _ tv m3.ts)) (gva_cons (K := K) inferInstance (gv_v (K := K) rfl hcl) gva_nil))) (fin m3)
    · refine q_when (et_test (ev_op (ev_var rfl) ev_c (rv_eq rfl))) (fun _ H4 e4 => ?_) (fun hn H4 e4 => ?_)
      · have m4 := Mo.exN (((e1.trans e2).trans e3).trans e4)
        exact y_ret m4.r (gv_nm (K := K) rfl ((sv_Tpart (K := K)).st _ _ _ tv m4.ts)) (fin m4)
      · have m4 := Mo.exN (((e1.trans e2).trans e3).trans e4)
        refine y_disp (K := K) (e := Tt K (Tq 12) 0 10) (ks := ["align", "sort", "kind"]) m4.r inferInstance (fun H5 m5 => gp_cons (K := K) inferInstance (gv_tw (K := K) (gv_strsT (K := K) (n := 3) ["left", "right", "middle"] (m := 12) (by decide +kernel) rfl (by decide)) (by decide) (by decide) fun _ _ h => h)
          (gp_cons (K := K) inferInstance (gv_tw (K := K) (gv_strsT (K := K) (n := 2) ["dot", "num"] (m := 12) (by decide +kernel) rfl (by decide)) (by decide) (by decide) fun _ _ h => h) (gp_cons (K := K) inferInstance (gv_tw (K := K) (gv_strsT (K := K) (n := 3) ["pages", "screen", "plain"] (m := 12) (by decide +kernel) rfl (by decide)) (by decide) (by decide) fun _ _ h => h) gp_nil))) (by decide) fun ds H5 d5 => ?_
        refine y_dset2 (K := K) d5 inferInstance rfl (by decide) (gva_cons (K := K) inferInstance (gv_tw (K := K) (gv_strsT (K := K) (n := 3) ["1", "a", "A"] (m := 12) (by decide +kernel) rfl (by decide)) (by decide) (by decide) fun _ _ h => h) (gva_cons (K := K) inferInstance (gv_tw (K := K) (gv_strsT (K := K) (n := 6) ["head", "table", "figure", "foot", "end", "item"] (m := 12) (by decide +kernel) rfl (by decide)) (by decide) (by decide) fun _ _ h => h) gva_nil)) fun H6 d6 => ?_
        have m6 := m4.trans d6.mo
        have tv6 := (sv_Tpart (K := K)).st _ _ _ tv m6.ts
        refine q_when (et_test (ev_op (ev_var rfl) ev_c (rv_eq rfl))) (fun _ H7 e7 => ?_) (fun hs H7 e7 => ?_)
        · have m7 := m6.trans (m6.ex e7)
          have tv7 := (sv_Tpart (K := K)).st _ _ _ tv m7.ts
          refine y_ret m7.r (gv_orV (gv_nm (K := K) rfl tv7) ?_) (fin m7)
          obtain ⟨s, ty, hg, nb, hz⟩ := part_vt tv7
          rcases hz with ⟨z, rfl, tz⟩ | hz
          · exact gv_andV (gv_isS rfl) (gv_eqQ (gv_v (K := K) rfl tz) (gv_q (n := 12) (by decide) (by decide +kernel)))
          · exact gv_te (gv_ev fun H8 m8 => ev_andV (a := false) (b := false) (ev_is (ev_isi (ev_var rfl) (ty.mono m8.toEx) rfl) (by rw [hz])) fun h => by cases h) fun _ => ⟨_, rfl⟩
        · have m7 := m6.trans (m6.ex e7)
          have tv7 := (sv_Tpart (K := K)).st _ _ _ tv m7.ts
          have d7 := d6.go (K := K) inferInstance (d6.mo.r.ex e7)
          have hm : c ∈ restC := by
            have h1 := List.all_eq_true.mp rest_all c hc
            have ht2 : decide (c ∈ toksC) = false := by rw [← inV_strs]; exact ht
            have hn2 : decide (c = "name") = false := by
              have : decide (V.str c = V.str "name") = false := hn
              exact decide_eq_false fun e => of_decide_eq_false this (by rw [e])
            have hs2 : decide (c = "style") = false := by
              have : decide (V.str c = V.str "style") = false := hs
              exact decide_eq_false fun e => of_decide_eq_false this (by rw [e])
            rw [hin, ht2, hn2, hs2] at h1
            exact of_decide_eq_true h1
          obtain ⟨s, ty, hg, nb, hz⟩ := part_vt tv7
          refine y_ret m7.r ?_ (fin m7)
          rcases hz with ⟨z, rfl, tz⟩ | hz
          · exact gv_andV (gv_isS rfl) (gv_inT (K := K) (T1 := Tq 12) inferInstance (gv_v (K := K) rfl tz) (gv_dget (K := K) (k := c) d7 inferInstance rfl (gv_e rfl) hm) (fun _ _ => flat_q) fun _ _ => flat_q)
          · exact gv_te (gv_ev fun H8 m8 => ev_andV (a := false) (b := false) (ev_is (ev_isi (ev_var rfl) (ty.mono m8.toEx) rfl) (by rw [hz])) fun h => by cases h) fun _ => ⟨_, rfl⟩
end
end Pk
set_option Elab.async false
set_option linter.all false
set_option maxRecDepth 100000
set_option maxHeartbeats 4000000
namespace Pk
open PySem PySem.Spec PyProof.Rows L2 Evl
section
variable {pu : Option Addr} {K : PySem.W.Frag} {σ : L2.St} {H H' H0 H1 H2 : Hp} {ta tb tc te tx tv ty td : TE} {t u : TT} {x y z v : V} {D : Ends} {tu tw tz : TS} {T U S T1 T2 e : TP} {es : List TP} {tt : TA} {d : Addr}
theorem dpt_part : DpT K 1 (Tpart K) := dpt_u dpt_i (dpt_u dpt_q (dpt_t dpt_q))
theorem dpt_row : DpT K 2 (Trow K) := fun v H t => by
  obtain ⟨p, w, ps, rfl, h1, h2, h3, h4, h5, _⟩ := t
  obtain ⟨ds, h6, h7, h8⟩ := dp_all (K := K) (H := H) (n := 1) (xs := .str w :: ps) fun x hx => by
    rcases List.mem_cons.mp hx with rfl | hx
    · exact dpt_q (K := K) (m := 12) _ _ ⟨w, rfl, h2, h3⟩
    · obtain ⟨i, hi, rfl⟩ := List.mem_iff_getElem.mp hx
      exact dpt_part _ _ (h5 i _ (List.getElem?_eq_getElem hi)).2
  refine ⟨_, .tup h1 h6, by simp only [PyData.canLay0]; exact h7, ?_⟩
  simp only [PyData.depth]
  omega
/-- {..}.get(k, x) of truths -/
theorem gv_dispGet {trs : List (TE × TE)} {ks : List Str} {k : Str} (s : Sv K e) (h : ∀ H1, Mo pu H H1 → GvPs pu trs σ H1 e ks) (hn : ks.length ≤ 15) (hk : Gv pu ty σ H (Te (.str k))) (hx : Gv pu tx σ H (Te x)) (he : ∀ H, e x H) : Gv pu (tDGet2 (tDisp trs) ty tx) σ H e := fun H1 m Q q d hd => by
  have m1 : Mo pu H1 (upd H1 d (.dK [])) := m.r.ex (Ex.new hd)
  refine h _ (m.trans m1) _ m1.r _ fun kvs H2 m2 hks hv => ⟨m2.ox _ _ (ne_fr m1 hd) upd_same, kvs, rfl, ?_, ?_⟩
  · have := congrArg List.length hks
    rw [List.length_map, List.length_map] at this
    omega
  · have m3 : Mo pu H1 (upd H2 d (.dK (mergeK [] kvs))) := mo_upd (m1.trans m2) hd
    have ts : Ts K H2 (upd H2 d (.dK (mergeK [] kvs))) := fun b xs q => st_updD (m2.ox _ _ (ne_fr m1 hd) upd_same) q
    refine ⟨d, rfl, .inl ⟨_, .inl upd_same⟩, hk _ (m.trans m3) _ fun y H4 m4 t => hx H4 ((m.trans m3).trans m4) _ fun z H5 m5 t2 => ?_⟩
    cases t
    cases t2
    have m6 := m4.trans m5
    refine ⟨_, .inl ⟨_, .inr k, .inl (m6.ox _ _ (ne_fr m1 hd) upd_same), rfl, rfl⟩, q _ H5 (m3.trans m6) ?_⟩
    cases hv' : valV (mergeK [] kvs) (.inr k) with
    | none => exact he H5
    | some v =>
      rcases merge_val kvs [] _ _ hv' with h1 | ⟨q, hq, rfl⟩
      · cases h1
      · exact s.st _ _ _ (s.st _ _ _ (hv q hq) ts) m6.ts
end
section
variable {P : Program} {w : World} {K : PySem.W.Frag} {mg : Str → Option Value} {base : Heap}
def sp_law_is_row (K : PySem.W.Frag) : Sp := spN [Trow K] Tb
-- slots: 0 _law_matter, 1 _law_form, 2 _law_k
theorem SC__law_is_row : FnScope ["_law_matter", "_law_form", "_law_k"] ["_law_matter"] (defScope (top 81)) := ⟨rfl, rfl, rfl, by decide +kernel, rfl, by decide +kernel, by decide +kernel⟩
theorem cl_law_is_row (T : Txt w K mg) : Cl P w K mg base CX0 6 "_law_is_row" (sp_law_is_row K) := by
  obtain ⟨fd, F, hm⟩ := T.df 45 "_law_is_row" 81 rfl
  refine cl0 F hm SC__law_is_row (fun vs H Q E h => by obtain ⟨⟨v, _, rfl, tv, rfl⟩, k⟩ := h; rfl) (fun _ _ _ _ _ _ us hl => match us, hl with | [_], _ => rfl) fun cdv A outer s H vs Q E hr h => ?_
  obtain ⟨⟨v, _, rfl, tv, rfl⟩, k⟩ := h
  refine ⟨_, (pss_cons (ps_if (PW.pt (pw_or (pt_not (pt_val (pe_callB call_is rfl T.f_isinstance boot_isinstance (pa_cons (pv 0) (pa_cons (pe_ty rfl T.f_tuple boot_tuple) pa_nil))))) (pw_or (pt_cmpR (op_eqD hr.units) (pv 0) (pe_tup pa_nil) (nomark _)) (pw_or1 (pt_not (pt_val (pe_callB call_is rfl T.f_isinstance boot_isinstance (pa_cons (pe_ix ix_tup (pv 0) pe_int (fun _ _ => rfl)) (pa_cons (pe_ty rfl T.f_str boot_str) pa_nil))))))))) (pss_one (ps_ret pe_bl)) pss_nil)
      (pss_cons (ps_set (i := 1) SC__law_is_row.nd rfl (Or.inr rfl) (pe_dget2 (hu_of hr) (pc0 (cl_law_forms T) hr (by decide) rfl) (pe_ix ix_tup (pv 0) pe_int (fun _ _ => rfl)) pe_non ⟨by rfl, by rfl, by rfl, by rfl⟩))
      (pss_cons (ps_if (PW.pt (pw_or (pt_cmpR op_isN (pv 1) pe_non (nomark _)) (pw_or1 (pt_cmpR op_ne (pe_callB call_len_seq rfl T.f_len boot_len (pa_cons (pv 0) pa_nil)) (pe_op op_add (pe_callB call_len_seq rfl T.f_len boot_len (pa_cons (pv 1) pa_nil)) pe_int) (nomark _))))) (pss_one (ps_ret pe_bl)) pss_nil)
      (pss_cons (ps_if (pt_not (pt_val (pe_callB (cr_all rfl) rfl T.f_all boot_all (pa_cons (pe_lc (own := [("_law_k", 2)]) (g := gName 2) (tt := tYes) rfl SC__law_is_row.nd (pi_range1 rfl T.f_range (pa_cons (pe_callB call_len_seq rfl T.f_len boot_len (pa_cons (pv 1) pa_nil)) pa_nil)) (blkOk_by (own := [("_law_k", 2)]) (N := ["_law_matter", "_law_form", "_law_k"]) (sc := defScope (top 81)) (by decide +kernel)) (fun _ _ _ _ _ => (pg_name (i := 2) SC__law_is_row.nd rfl (Or.inl rfl))) (fun _ _ _ _ _ => pts_nil) (fun _ _ _ _ _ => (pc (cl_law_is_part T) hr (by decide) rfl (pa_cons (pe_ix (show IxR _ (rIxT K) from ix_tup) (pv 1) (pv 2) (fun _ _ => rfl)) (pa_cons (pe_ix (show IxR _ (rIxT K) from ix_tup) (pv 0) (pe_op op_add (pv 2) pe_int) (fun _ _ => rfl)) pa_nil))))) pa_nil)))) (pss_one (ps_ret pe_bl)) pss_nil)
      (pss_cons (ps_if (pt_cmpR op_ne (pe_ix ix_tup (pv 0) pe_int (fun _ _ => rfl)) pe_str (nomark _)) (pss_one (ps_ret pe_bl)) pss_nil)
      (pss_one (ps_ret (pe_dget2 (hu_of hr) (pe_disp (pps_cons pe_str (pe_cmpR op_gt (pe_ix ix_tup (pv 0) pe_int (fun _ _ => rfl)) pe_int (nomark _)) (pps_cons pe_str (pe_cmpR op_eq (pe_ix ix_tup (pv 0) pe_int (fun _ _ => rfl)) pe_int (nomark _)) pps_nil)) (by rfl) (by rfl) (fun z => by cases z) (by decide)) (pe_ix ix_tup (pv 0) pe_int (fun _ _ => rfl)) pe_bl ⟨by rfl, by rfl, by rfl, by rfl⟩)))))))), ?_⟩
  have tv0 := tv
  obtain ⟨p, wd, ps, rfl, hq, w1, w2, p1, hps, hsh⟩ := tv0
  have M : Mo none H H := mo_rn
  have fin : ∀ {H1 : Hp}, Mo none H H1 → ∀ v H2, Mo none H1 H2 → Tb v H2 → Q v H2 := fun {H1} m v H2 m2 t => k v H2 (m.trans m2) t
  have ret : ∀ {H1 : Hp} {b : Bool}, Mo none H H1 → Q (.bl b) H1 := fun {H1 b} m => k _ H1 m ⟨b, rfl⟩
  have ix : ∀ {H1 : Hp} {σ : L2.St} (j : Nat) (y : V), Mo none H H1 → σ[0]? = some (some (.ref p)) → (V.str wd :: ps)[j]? = some y → Ev (tOp (rIxT K) (tVar 0) (tC (.int (j : Nat)))) σ H1 y := fun {H1 σ} j y m h0 hj => ev_op (ev_var h0) ev_c (rv_ixT (m.t hq) (atI_nat hj))
  refine y_when M (gt_or1 (gt_not (S := ATb) (gt_b (gv_te (gv_ev fun H2 m2 => ev_isi (ev_var rfl) (.tup (m2.t hq)) rfl) fun _ => ⟨_, rfl⟩)) fun _ _ => trivial) (gt_or1 (gt_test (gv_eqD (K := K) inferInstance (gv_v (K := K) rfl tv) (gv_tup (K := K) (es := []) inferInstance (by decide) gva_nil) dpt_row (dpt_x (n := 0) dpa_nil) (by decide) (by decide)))
    (gt_not (S := ATb) (gt_b (gv_te (gv_ev fun H2 m2 => ev_isi (ix 0 _ m2 rfl rfl) (.str wd) rfl) fun _ => ⟨_, rfl⟩)) fun _ _ => trivial))) (fun H1 m1 _ => ?_) (fun H1 m1 _ => ?_)
  · exact s_ret ev_c fun H2 e2 => ret (m1.trans (m1.ex e2))
  · refine y_asg (T := To (Tform K)) m1.r (fun H2 m2 Q' q' => ?_) fun f H2 m2 tf => ?_
    · refine ⟨rfl, fun d H3 kvs m3 h3 hv => ⟨d, rfl, .inl ⟨_, .inl h3⟩, ix 0 _ ((m1.trans m2).trans m3) rfl rfl H3 (Ex.refl _) _ fun H4 e4 => ⟨_, .inl ⟨kvs, .inr wd, .inl (e4 _ _ h3), rfl, rfl⟩, q' _ H4 (m3.trans (m3.ex e4)) ?_⟩⟩⟩
      cases hk : valV kvs (.inr wd) with
      | none => exact .inl rfl
      | some u => exact .inr ((sv_Tform (K := K)).st _ _ _ (hv _ _ hk) (m3.ex e4).ts)
    · have m02 := m1.trans m2
      rcases tf with rfl | tf
      · exact q_when (b := true) (et_or1 (et_test (ev_op (ev_var rfl) ev_c rv_is))) (fun _ H3 e3 => s_ret ev_c fun H4 e4 => ret (m02.trans (m02.ex (e3.trans e4)))) (fun h => by cases h)
      · obtain ⟨q, fs, rfl, hf, f0, f1, hfs⟩ := tf
        refine q_when (et_or (et_test (ev_op (ev_var rfl) ev_c rv_is)) fun _ => et_test (ev_op (ev_cb (ea1 (ev_var rfl)) (rc_lenT (m02.t hq))) (ev_op (ev_cb (ea1 (ev_var rfl)) (rc_lenT hf)) ev_c rv_I0) (rv_ne rfl))) (fun _ H3 e3 => s_ret ev_c fun H4 e4 => ret (m02.trans (m02.ex (e3.trans e4)))) (fun hl H3 e3 => ?_)
        have hlen : ps.length = fs.length := by
          simp only [Bool.or_eq_false_iff] at hl
          have h2 := hl.2
          rw [Bool.not_eq_false', decide_eq_true_iff] at h2
          have h3 := V.int.inj h2
          rw [List.length_cons] at h3
          omega
        have m03 := m02.trans (m02.ex e3)
        refine y_when (R := ATb) m03.r (gt_not (S := ATb) (gt_b (gv_all (K := K) (gv_lcR (K := K) (e := Tb) (a := fs.length) (b := fs.length) (gv_lenT (K := K) (e := Tcode) (a := fs.length) (b := fs.length) (gv_v (K := K) rfl ⟨q, fs, rfl, (m02.ex e3).t hf, Nat.le_refl _, Nat.le_refl _, hfs⟩)) (by omega) (by omega) inferInstance (fun x => rfl) fun i H4 m4 i0 i1 => ?_))) fun _ _ => trivial) (fun H4 m4 _ => ?_) (fun H4 m4 _ => ?_)
        · obtain ⟨j, rfl⟩ := Int.eq_ofNat_of_zero_le i0
          have hj : j < ps.length := by omega
          refine gv_callN (es := [Tcode, Tpart K]) (T := Tb) (gva_cons (K := K) inferInstance (gv_ixT (K := K) (lo := fs.length) (hi := fs.length) (n := j) inferInstance (gv_v (K := K) rfl ⟨q, fs, rfl, m4.t ((m02.ex e3).t hf), Nat.le_refl _, Nat.le_refl _, hfs⟩) (gv_v (K := K) rfl ⟨j, rfl, by omega, Int.le_refl _⟩) (by omega)) (gva_cons (K := K) (e := Tpart K) inferInstance ?_ gva_nil))
          have hp := (hps j ps[j] (List.getElem?_eq_getElem hj)).2
          exact (gv_ev fun H5 m5 => ev_op (ev_var rfl) (ev_op (ev_var rfl) ev_c rv_I0) (rv_ixT (((m03.trans m4).trans m5).t hq) (show atI (V.str wd :: ps) ((j : Int) + 1) = some ps[j] from atI_nat (j := j + 1) (by rw [List.getElem?_cons_succ]; exact List.getElem?_eq_getElem hj)))).imp fun v H5 m5 t => by
            cases t
            exact (sv_Tpart (K := K)).st _ _ _ hp ((m03.trans m4).trans m5).ts
        · exact s_ret ev_c fun H5 e5 => ret ((m03.trans m4).trans (m4.ex e5))
        · have m04 := m03.trans m4
          refine q_when (et_test (ev_op (ix 0 _ m04 rfl rfl) ev_c (rv_ne rfl))) (fun _ H5 e5 => s_ret ev_c fun H6 e6 => ret (m04.trans (m04.ex (e5.trans e6)))) (fun hw H5 e5 => ?_)
          have hw2 : wd = "counter" := by
            rw [Bool.not_eq_false', decide_eq_true_iff] at hw
            exact V.str.inj hw
          obtain ⟨c, y, i, rfl, _⟩ := hsh.1 hw2
          have m05 := m04.trans (m04.ex e5)
          refine y_ret m05.r (gv_dispGet (K := K) (e := Tb) (ks := ["head", "item"]) (k := c) (x := .bl true) inferInstance (fun H6 m6 => gp_cons (K := K) inferInstance (gv_te (gv_ev fun H7 m7 => ev_op (ix 3 _ ((m05.trans m6).trans m7) rfl rfl) ev_c rv_I0) fun _ => ⟨_, rfl⟩) (gp_cons (K := K) inferInstance (gv_te (gv_ev fun H7 m7 => ev_op (ix 3 _ ((m05.trans m6).trans m7) rfl rfl) ev_c (rv_eq rfl)) fun _ => ⟨_, rfl⟩) gp_nil)) (by decide) (gv_ev fun H6 m6 => ix 1 _ (m05.trans m6) rfl rfl) (gv_ev fun _ _ => ev_c) fun _ => ⟨_, rfl⟩) (fin m05)
end
end Pk
set_option Elab.async false
set_option linter.all false
set_option maxRecDepth 100000
set_option maxHeartbeats 4000000
/-! Loose promises: ranges with two bounds, comprehensions with a test, places. -/
namespace Pk
open PySem PySem.Spec PyProof.Rows L2 Evl
section
variable {pu : Option Addr} {K : PySem.W.Frag} {σ : L2.St} {H H' H1 H2 : Hp} {ta tb tc te tx tv : TE} {t u : TT} {x y z v w : V} {D : Ends} {tu tw tz : TS} {g : TG} {T U S T1 T2 : TP} {es : List TP} {tt : TA} {e e0 : TP} {l : Addr} {o : HO}
theorem gv_lcRT {tn : TE} {j : Nat} {vs : List Nat} {a b : Int} (hn : Gv pu tn σ H (Ti a b)) (h0 : 0 ≤ a) (hb : b ≤ 1000000) (sv : Sv K e) (hw : ∀ x, wipe ((wipe σ vs).set j (some x)) vs = wipe σ vs)
    (ht : ∀ (i : Int) H0, Mo pu H H0 → 0 ≤ i → i < b → GtR pu t ((wipe σ vs).set j (some (.int i))) H0 ATb) (he : ∀ (i : Int) H0, Mo pu H H0 → 0 ≤ i → i < b → Gv pu te ((wipe σ vs).set j (some (.int i))) H0 e) : Gv pu (tLc (iRng1 (tCons tn tNil)) (gName j) t te vs) σ H (Tl pu e 0 b.toNat) := fun H1 m Q q =>
  hn H1 m _ fun v H2 m2 tv => by
    obtain ⟨i, rfl, h1, h2⟩ := tv
    refine ⟨i, rfl, by omega, by omega, ?_⟩
    refine gv_lcW (K := K) (pu := pu) walk_range (sz (by omega)) (fun x _ => ∃ k : Int, x = .int k ∧ 0 ≤ k ∧ k < b) sv m2.r (fun _ _ => trivial) (fun k H0 x H' hk _ y => ⟨y.1, _, y.2, by omega, by omega⟩) hw (fun x H0 m0 ha => ?_) (fun x H0 m0 ha => ?_) fun D H3 xs hD m3 h3 h4 h5 h6 => ?_
    · obtain ⟨k, rfl, hk, hk2⟩ := ha
      exact ht k H0 ((m.trans m2).trans m0) hk hk2
    · obtain ⟨k, rfl, hk, hk2⟩ := ha
      exact he k H0 ((m.trans m2).trans m0) hk hk2
    · exact q _ H3 (m2.trans m3) ⟨D, xs, rfl, ne_fresh m2.r hD, h3, Nat.zero_le _, by omega, h6⟩
theorem gv_lcR2 {j : Nat} {vs : List Nat} {a0 a1 b0 b1 : Int} (ha : Gv pu ta σ H (Ti a0 a1)) (hb : Gv pu tb σ H (Ti b0 b1)) (h0 : -1000000 ≤ a0) (h1 : a1 ≤ 1000000) (h2 : -1000000 ≤ b0) (h3 : b1 ≤ 1000000) (h4 : b1 - a0 ≤ 1000000) (sv : Sv K e) (hw : ∀ x, wipe ((wipe σ vs).set j (some x)) vs = wipe σ vs)
    (he : ∀ (i : Int) H0, Mo pu H H0 → a0 ≤ i → i < b1 → Gv pu te ((wipe σ vs).set j (some (.int i))) H0 e) : Gv pu (tLc (iRng2 (tCons ta (tCons tb tNil))) (gName j) tYes te vs) σ H (Tl pu e 0 (b1 - a0).toNat) := fun H1 m Q q =>
  ha H1 m _ fun v H2 m2 tv => hb H2 (m.trans m2) _ fun w H3 m3 tw => by
    obtain ⟨i, rfl, i0, i1⟩ := tv
    obtain ⟨k, rfl, k0, k1⟩ := tw
    refine ⟨i, k, rfl, ⟨by omega, by omega, by omega, by omega⟩, ?_⟩
    have m4 := (m2.trans m3).r
    refine gv_lcW (K := K) (pu := pu) walk_range (sz (by omega)) (fun x _ => ∃ c : Int, x = .int c ∧ a0 ≤ c ∧ c < b1) sv m4 (fun _ _ => trivial) (fun c H0 x H' hk _ y => ⟨y.1, _, y.2, by omega, by omega⟩) hw (fun x H0 m0 ha => ?_) (fun x H0 m0 ha => ?_) fun D H5 xs hD m5 h3 h4 h5 h6 => ?_
    · exact fun H1 m Q q => q true H1 m.r trivial
    · obtain ⟨k, rfl, hk, hk2⟩ := ha
      exact he k H0 (((m.trans m2).trans m3).trans m0) hk hk2
    · exact q _ H5 ((m2.trans m3).trans m5) ⟨D, xs, rfl, ne_fresh m4 hD, h3, Nat.zero_le _, by omega, h6⟩
theorem q_rng2 {j : Nat} {a0 a1 b0 b1 : Int} (m : Mo pu H H) (ha : Gv pu ta σ H (Ti a0 a1)) (hb : Gv pu tb σ H (Ti b0 b1)) (h0 : -1000000 ≤ a0) (h1 : a1 ≤ 1000000) (h2 : -1000000 ≤ b0) (h3 : b1 ≤ 1000000) (Pv : Nat → L2.St → Hp → Prop) (hz : ∀ H1, Mo pu H H1 → Pv 0 σ H1)
    (hs : ∀ (i : Nat) (c : Int) σ' H', (i : Int) < b1 - a0 → a0 ≤ c → c < b1 → Pv i σ' H' → tu { D with nx := Pv (i + 1), ct := Pv (i + 1), bk := tz D } (σ'.set j (some (.int c))) H') (hd : ∀ (i : Nat) σ' H', i = 0 ∨ (i : Int) ≤ b1 - a0 → Pv i σ' H' → tz D σ' H') : tSeq (tFor (iRng2 (tCons ta (tCons tb tNil))) (gName j) tu) tz D σ H := by
  have : tFor (iRng2 (tCons ta (tCons tb tNil))) (gName j) tu { D with nx := tz D } σ H := by
    refine ha H m _ fun v H2 m2 tv => hb H2 m2 _ fun w H3 m3 tw => ?_
    obtain ⟨i, rfl, i0, i1⟩ := tv
    obtain ⟨k, rfl, k0, k1⟩ := tw
    refine ⟨i, k, rfl, ⟨by omega, by omega, by omega, by omega⟩, ?_⟩
    refine for_it walk_range Pv (hz H3 (m2.trans m3)) (fun _ _ _ _ _ => trivial) (fun n x σ' H1 H2 hi p y => ?_) (fun σ' H' p => hd _ σ' H' (by omega) p)
    obtain ⟨rfl, rfl⟩ := y
    exact hs n _ σ' H2 (by omega) (by omega) (by omega) p
  exact this
theorem y_extG {i n : Nat} {l : Addr} {ws : List V} (m : Mo pu H H) (h : Gv pu te σ H (Tl pu e 0 n)) (hi : σ[i]? = some (some (.ref l))) (hl : H l = some (.lst ws)) (hp : pu ≠ some l) (hz : ws.length + n ≤ 1000000)
    (kk : ∀ H1 zs, Mo pu H H1 → H1 l = some (.lst ws) → zs.length ≤ n → (∀ z ∈ zs, e z H1) → D.nx σ (upd H1 l (.lst (ws ++ zs)))) : tDrop (tBM K "list" rExtend (tVar i) (tCons te tNil)) D σ H :=
  ⟨_, hi, Or.inl ⟨rfl, ws, sq_of hl⟩, h H m _ fun v H1 m1 t => by
    obtain ⟨b, zs, rfl, e1, e2, e3, e4, e5⟩ := t
    exact ⟨l, b, ws, zs, rfl, rfl, m1.ox _ _ hp hl, e2, sz (by omega), kk H1 zs m1 (m1.ox _ _ hp hl) e4 e5⟩⟩
theorem app_alls {xs zs : List V} {e : TP} (he : ∀ x ∈ xs, e x H) (hv : ∀ x ∈ zs, e x H) (s : Sv K e) (hl : H l = some (.lst xs)) : ∀ x ∈ xs ++ zs, e x (upd H l (.lst (xs ++ zs))) := fun x hx => by
  refine s.st _ _ _ ?_ (fun b ws q => st_updL hl q)
  exact (List.mem_append.mp hx).elim (he x) (hv x)
theorem gv_pl0 (h : Gv pu te σ H (Tpl K)) : Gv pu (tOp (rIxT K) te (tC (.int 0))) σ H TiA := fun H1 m Q q => h H1 m _ fun v H2 m2 t => by
  obtain ⟨p, _, rfl, hp, a, _, rfl, ta, b, _, rfl, tb, rfl⟩ := t
  exact ⟨p, _, 0, a, rfl, rfl, hp, rfl, q _ H2 m2 ta⟩
theorem gv_pl1 (h : Gv pu te σ H (Tpl K)) : Gv pu (tOp (rIxT K) te (tC (.int 1))) σ H TiA := fun H1 m Q q => h H1 m _ fun v H2 m2 t => by
  obtain ⟨p, _, rfl, hp, a, _, rfl, ta, b, _, rfl, tb, rfl⟩ := t
  exact ⟨p, _, 1, b, rfl, rfl, hp, rfl, q _ H2 m2 tb⟩
theorem gv_cmpA {f : Int → Int → Bool} (ha : Gv pu ta σ H TiA) (hb : Gv pu tb σ H TiA) : Gv pu (tOp (rI0 fun i j => .bl (f i j)) ta tb) σ H Tb := gv_op (K := []) inferInstance ha hb fun x y H2 Q m t1 t2 q => by
  obtain ⟨i, rfl⟩ := t1
  obtain ⟨j, rfl⟩ := t2
  exact ⟨i, j, rfl, rfl, q _ H2 m.r ⟨_, rfl⟩⟩
/-- x != [], a list's items told -/
theorem dp_len : ∀ {xs : List V} {ds : List PyData}, DpAll K H xs ds → ds.length = xs.length
  | _, _, .nil => rfl
  | _, _, .cons _ r => by rw [List.length_cons, List.length_cons, dp_len r]
theorem gt_ne0 {i n : Nat} {p : Addr} {xs : List V} (hi : σ[i]? = some (some (.ref p))) (hx : H p = some (.lst xs)) (he : ∀ x ∈ xs, e x H) (d : DpT K n e) (hn : n ≤ 60) : GtR none (tTest (tOp (rNeD K) (tVar i) (tLst tNil))) σ H (fun b => b = true → 1 ≤ xs.length) := by
  obtain ⟨ds, h1, h2, h3⟩ := dp_all fun x hx => d x H (he x hx)
  have sd : SeqAt.shaped (.list ds) = true := shp (n := n + 1) (by simp only [PyData.canLay0]; exact h2) (by simp only [PyData.depth]; omega) (by omega)
  refine fun H1 m Q q => gt_et (b := !ds.isEmpty) (fun H2 m2 => et_test (ev_ne0L (ev_var hi) (Dp.mono m2.toEx (.lst (sq_of hx) h1)) sd)) H1 m Q fun b H2 m2 hb => q b H2 m2 fun h => ?_
  rw [h] at hb
  have := dp_len h1
  cases ds with
  | nil => cases hb
  | cons a r => rw [List.length_cons] at this; omega
theorem gv_w (h : Gv pu te σ H T) (k : ∀ v H, T v H → U v H) : Gv pu te σ H U := h.imp fun v H1 _ t => k v H1 t
end
end Pk
set_option Elab.async false
set_option linter.all false
set_option maxRecDepth 100000
set_option maxHeartbeats 4000000
namespace Pk
open PySem PySem.Spec PyProof.Rows L2 Evl
section
variable {P : Program} {w : World} {K : PySem.W.Frag} {mg : Str → Option Value} {base : Heap}
def sp_law_cell_taken (K : PySem.W.Frag) : Sp := fun vs H Q _ => ∃ (p : Addr) (d ac : Int) (t tk : V) (at' cols : Int), vs = [.ref p, tk, .int at', .int cols] ∧ SqT K H p [.str "cell", .int d, .int ac, t] ∧ (1 ≤ d ∧ d ≤ 4 ∧ 1 ≤ ac ∧ ac ≤ 4) ∧ Tl none (Tpl K) 0 50000 tk H ∧ (-1 ≤ at' ∧ at' ≤ 1000 ∧ 1 ≤ cols ∧ cols ≤ 4) ∧ ∀ v H', Mo none H H' → Tl none (Tpl K) 0 32 v H' → Q v H'
-- slots: 0 _law_strip_row, 1 _law_taken, 2 _law_at, 3 _law_columns, 4 _law_free, 5 _law_c, 6 _law_found, 7 _law_r, 8 _law_place
theorem SC__law_cell_taken : FnScope ["_law_strip_row", "_law_taken", "_law_at", "_law_columns", "_law_free", "_law_c", "_law_found", "_law_r", "_law_place"] ["_law_strip_row", "_law_taken", "_law_at", "_law_columns"] (defScope (top 82)) := ⟨rfl, rfl, rfl, by decide +kernel, rfl, by decide +kernel, by decide +kernel⟩
theorem cl_law_cell_taken (T : Txt w K mg) : Cl P w K mg base CX0 1 "_law_cell_taken" (sp_law_cell_taken K) := by
  obtain ⟨fd, F, hm⟩ := T.df 46 "_law_cell_taken" 82 rfl
  refine cl0 F hm SC__law_cell_taken (fun vs H Q E h => by obtain ⟨p, d, ac, t, tk, at', cols, rfl, hq, ⟨d0, d1, a0, a1⟩, ttk, ⟨r0, r1, c0, c1⟩, k⟩ := h; rfl) (fun _ _ _ _ _ _ us hl => match us, hl with | [_, _, _, _], _ => rfl) fun cdv A outer s H vs Q E hr h => ?_
  obtain ⟨p, d, ac, t, tk, at', cols, rfl, hq, ⟨d0, d1, a0, a1⟩, ttk, ⟨r0, r1, c0, c1⟩, k⟩ := h
  refine ⟨_, (pss_cons (ps_setLc (i := 4) (own := [("_law_c", 5)]) (g := gName 5) rfl SC__law_cell_taken.nd rfl rfl (sw_true rfl rfl rfl (by decide +kernel)) (pi_range1 rfl T.f_range (pa_cons (pv 3) pa_nil)) (blkOk_by (own := [("_law_c", 5)]) (N := ["_law_strip_row", "_law_taken", "_law_at", "_law_columns", "_law_free", "_law_c", "_law_found", "_law_r", "_law_place"]) (sc := defScope (top 82)) (by decide +kernel)) (fun _ _ _ _ _ => (pg_name (i := 5) SC__law_cell_taken.nd rfl (Or.inl rfl))) (fun _ _ _ _ _ => pts_one (pt_cmpR (show OpR _ _ (rNotInD K) from op_notInD (hu65 hr)) (pe_tup (pa_cons (pv 2) (pa_cons (pv 5) pa_nil))) (pv 1) (by rfl))) (fun _ _ _ _ _ => (pv 5)))
      (pss_cons (ps_set (i := 6) SC__law_cell_taken.nd rfl (Or.inl rfl) (pe_lst pa_nil))
      (pss_cons (ps_for PassesOwn.never rfl (pi_range2 rfl T.f_range (pa_cons (pe_ifExp (pt_cmpR (op_neD hr.units) (pv 4) (pe_lst pa_nil) (nomark _)) (pe_ix ix_list (pv 4) pe_int (fun _ _ => rfl)) (pv 3)) (pa_cons (pe_op op_add (pe_ifExp (pt_cmpR (op_neD hr.units) (pv 4) (pe_lst pa_nil) (nomark _)) (pe_ix ix_list (pv 4) pe_int (fun _ _ => rfl)) (pv 3)) (pe_ix ix_tup (pv 0) pe_int (fun _ _ => rfl))) pa_nil))) (pg_name (i := 5) SC__law_cell_taken.nd rfl (Or.inr rfl))
        (pss_one (ps_expr (pe_bm PySem.F.plainAttrs_list PySem.F.slot_list_extend PySem.F.type_list_extend mt_extend (pv 6) (pa_cons (pe_lc (own := [("_law_r", 7)]) (g := gName 7) (tt := tYes) rfl SC__law_cell_taken.nd (pi_range2 rfl T.f_range (pa_cons (pv 2) (pa_cons (pe_op op_add (pv 2) (pe_ix ix_tup (pv 0) pe_int (fun _ _ => rfl))) pa_nil))) (blkOk_by (own := [("_law_r", 7)]) (N := ["_law_strip_row", "_law_taken", "_law_at", "_law_columns", "_law_free", "_law_c", "_law_found", "_law_r", "_law_place"]) (sc := defScope (top 82)) (by decide +kernel)) (fun _ _ _ _ _ => (pg_name (i := 7) SC__law_cell_taken.nd rfl (Or.inl rfl))) (fun _ _ _ _ _ => pts_nil) (fun _ _ _ _ _ => (pe_tup (pa_cons (pv 7) (pa_cons (pv 5) pa_nil))))) pa_nil)))))
      (pss_cons (ps_if (pt_val (pe_callB (cr_any rfl) rfl T.f_any boot_any (pa_cons (pe_lc (own := [("_law_place", 8)]) (g := gName 8) (tt := tYes) rfl SC__law_cell_taken.nd (pi_list (pv 6)) (blkOk_by (own := [("_law_place", 8)]) (N := ["_law_strip_row", "_law_taken", "_law_at", "_law_columns", "_law_free", "_law_c", "_law_found", "_law_r", "_law_place"]) (sc := defScope (top 82)) (by decide +kernel)) (fun _ _ _ _ _ => (pg_name (i := 8) SC__law_cell_taken.nd rfl (Or.inl rfl))) (fun _ _ _ _ _ => pts_nil) (fun _ _ _ _ _ => (pe_or (pe_cmpR (show OpR _ _ (rInD K) from op_inD (hu65 hr)) (pv 8) (pv 1) (by rfl)) (pe_one (pe_cmpR op_ge (pe_ix (show IxR _ (rIxT K) from ix_tup) (pv 8) pe_int (fun _ _ => rfl)) (pv 3) (nomark _)))))) pa_nil))) (pss_one (ps_ret (pe_lst pa_nil))) pss_nil)
      (pss_one (ps_ret (pv 6))))))), ?_⟩
  have M : Mo none H H := mo_rn
  have hrow : ∀ {H1 : Hp} {σ : L2.St} (j : Nat) (y : V), Mo none H H1 → σ[0]? = some (some (.ref p)) → ([V.str "cell", .int d, .int ac, t])[j]? = some y → Ev (tOp (rIxT K) (tVar 0) (tC (.int (j : Nat)))) σ H1 y := fun {H1 σ} j y m h0 hj => ev_op (ev_var h0) ev_c (rv_ixT (m.t hq) (atI_nat hj))
  have hrowG : ∀ {H1 : Hp} {σ : L2.St} (j : Nat) (i lo hi : Int), Mo none H H1 → σ[0]? = some (some (.ref p)) → ([V.str "cell", .int d, .int ac, t])[j]? = some (.int i) → lo ≤ i → i ≤ hi → Gv none (tOp (rIxT K) (tVar 0) (tC (.int (j : Nat)))) σ H1 (Ti lo hi) := fun {H1 σ} j i lo hi m h0 hj h1 h2 => gv_te (gv_ev fun H2 m2 => hrow j _ (m.trans m2) h0 hj) fun _ => ⟨i, rfl, h1, h2⟩
  have tkk : ∀ {H1 : Hp}, Mo none H H1 → Tl none (Tpl K) 0 50000 tk H1 := fun {H1} m => (sb_Tl (K := K)).st _ _ _ ttk m
  refine y_asg M (gv_lcRT (K := K) (e := Ti 0 3) (a := 1) (b := 4) (gv_v (K := K) rfl ⟨cols, rfl, c0, c1⟩) (by decide) (by decide) inferInstance (fun x => rfl) (fun i H1 m1 i0 i1 => gt_test (gv_niD (K := K) inferInstance (gv_pl (gv_v (K := K) (T := TiA) rfl ⟨_, rfl⟩) (gv_v (K := K) (T := TiA) rfl ⟨_, rfl⟩)) (gv_v (K := K) rfl (tkk m1)) dpt_pl dpt_pl (by decide) (by decide))) fun i H1 m1 i0 i1 => gv_v (K := K) rfl ⟨i, rfl, i0, by omega⟩) fun vf H1 m1 tf => ?_
  obtain ⟨pf, fs, rfl, npf, gf, f0, f1, hf⟩ := tf
  refine y_asgN m1.r (gn_lst (K := K) (e := Tpl K) inferInstance (by decide) gve_nil) fun l H2 xs hl m2 g2 x0 x1 hx => ?_
  have m02 := m1.trans m2
  have first : ∀ {H3 : Hp} {σ : L2.St}, Mo none H2 H3 → σ[4]? = some (some (.ref pf)) → σ[3]? = some (some (.int cols)) → Gv none (tIf (tTest (tOp (rNeD K) (tVar 4) (tLst tNil))) (tOp (rIxL K) (tVar 4) (tC (.int 0))) (tVar 3)) σ H3 (Ti 0 4) := fun {H3 σ} m3 h4 h3 => by
    have gf3 : H3 pf = some (.lst fs) := (m2.trans m3).ox _ _ npf gf
    have hf3 : ∀ x ∈ fs, Ti 0 3 x H3 := fun x hx => (sv_Ti (K := K)).st _ _ _ (hf x hx) (m2.trans m3).ts
    refine gv_if (gt_ne0 (K := K) h4 gf3 hf3 (dpt_i (n := 0)) (by decide)) (fun h => ?_) fun _ => gv_v (K := K) h3 ⟨cols, rfl, by omega, by omega⟩
    exact gv_iw (gv_ixL (K := K) (e := Ti 0 3) (lo := 1) (hi := fs.length) (n := 0) inferInstance (gv_v (K := K) h4 ⟨pf, fs, rfl, npf, gf3, h rfl, Nat.le_refl _, hf3⟩) gv_int (by decide)) (by decide) (by decide)
  refine q_rng2 (a0 := 0) (a1 := 4) (b0 := 1) (b1 := 8) m2.r (first m2.r rfl rfl) (gv_iw (gv_add (first m2.r rfl rfl) (hrowG 2 ac 1 4 m02 rfl rfl (by omega) (by omega))) (by decide) (by decide)) (by decide) (by decide) (by decide) (by decide) (fun i σ' H' => Mo none H H' ∧ (∃ ys, H' l = some (.lst ys) ∧ ys.length ≤ 4 * i ∧ ∀ y ∈ ys, Tpl K y H') ∧ ∃ o5 o7 o8, σ' = [some (.ref p), some tk, some (.int at'), some (.int cols), some (.ref pf), o5, some (.ref l), o7, o8])
    (fun H3 m3 => ⟨m02.trans m3, ⟨xs, m3.ox _ _ (ne_fr m2 hl) g2, by omega, fun y hy => sv_Tpl.st _ _ _ (hx y hy) m3.ts⟩, _, _, _, rfl⟩) (fun i c σ' H3 hi c0' c1' q => ?_) (fun i σ' H3 hi q => ?_)
  · obtain ⟨m3, ⟨ys, g3, y1, hy⟩, o5, o7, o8, rfl⟩ := q
    have nl : (none : Option Addr) ≠ some l := fun e => (nomatch e)
    refine y_extG (K := K) (e := Tpl K) (n := 4) m3.r (gv_lw (gv_lcR2 (K := K) (e := Tpl K) (a0 := at') (a1 := at') (b0 := at' + d) (b1 := at' + d) (gv_v (K := K) rfl ⟨at', rfl, Int.le_refl _, Int.le_refl _⟩) (gv_add (gv_v (K := K) rfl ⟨at', rfl, Int.le_refl _, Int.le_refl _⟩) (hrowG 1 d d d m3 rfl rfl (Int.le_refl _) (Int.le_refl _))) (by omega) (by omega) (by omega) (by omega) (by omega) inferInstance (fun x => rfl) fun r H4 m4 r0 r1 => gv_pl (gv_v (K := K) rfl ⟨_, rfl⟩) (gv_v (K := K) rfl ⟨_, rfl⟩)) (by decide) (by omega) fun _ _ h => h) rfl g3 nl (by omega) fun H4 zs m4 g4 z1 hz => ?_
    exact ⟨mo_upd (m3.trans m4) (m1.fresh hl), ⟨_, upd_same, by rw [List.length_append]; omega, app_alls (K := K) (fun y h => sv_Tpl.st _ _ _ (hy y h) m4.ts) hz inferInstance g4⟩, _, _, _, rfl⟩
  · obtain ⟨m3, ⟨ys, g3, y1, hy⟩, o5, o7, o8, rfl⟩ := q
    have nl : (none : Option Addr) ≠ some l := fun e => (nomatch e)
    have tl : ∀ {H4 : Hp}, Mo none H3 H4 → Tl none (Tpl K) 0 32 (.ref l) H4 := fun {H4} m4 => ⟨l, ys, rfl, nl, m4.ox _ _ nl g3, Nat.zero_le _, by omega, fun y h => sv_Tpl.st _ _ _ (hy y h) m4.ts⟩
    refine y_when m3.r (gt_b (gv_any (K := K) (gv_lcLst (K := K) (e0 := Tpl K) (e := Tb) (lo := 0) (hi := 32) (gv_v (K := K) rfl (tl m3.r)) (by decide) inferInstance inferInstance (fun x => rfl) fun x H4 m4 tx => gv_orV (gv_inD (K := K) inferInstance (gv_v (K := K) rfl tx) (gv_v (K := K) rfl (tkk (m3.trans m4))) dpt_pl dpt_pl (by decide) (by decide)) (gv_cmpA (gv_pl1 (gv_v (K := K) rfl tx)) (gv_v (K := K) rfl ⟨_, rfl⟩))))) (fun H4 m4 _ => ?_) (fun H4 m4 _ => ?_)
    · exact y_ret m4.r (gv_lw (gv_nilL (e := Tpl K)) (by decide) (by decide) fun _ _ h => h) fun v H5 m5 t => k v H5 ((m3.trans m4).trans m5) t
    · exact y_ret m4.r (gv_v (K := K) rfl (tl m4)) fun v H5 m5 t => k v H5 ((m3.trans m4).trans m5) t
end
end Pk
set_option Elab.async false
set_option linter.all false
set_option maxRecDepth 100000
set_option maxHeartbeats 4000000
namespace Pk
open PySem PySem.Spec PyProof.Rows L2 Evl
section
variable {pu : Option Addr} {K : PySem.W.Frag} {σ : L2.St} {H H' H1 H2 : Hp} {ta tb tc te tx tv : TE} {t u : TT} {x y z v : V} {D : Ends} {tu tw tz : TS} {g : TG} {T U S T1 T2 : TP} {es : List TP} {tt : TA} {e e0 : TP} {l : Addr} {o : HO}
def Tkey (K : PySem.W.Frag) : TP := Tx K [Tq 12, Tpart K, Tpart K]
instance sv_Tkey : Sv K (Tkey K) := inferInstanceAs (Sv K (Tx K [Tq 12, Tpart K, Tpart K]))
theorem dpt_key : DpT K 2 (Tkey K) := dpt_x (n := 1) (dpa_cons dpt_q (dpa_cons dpt_part (dpa_cons dpt_part dpa_nil)))
/-- what stood carries from row to row -/
structure SB (K : PySem.W.Frag) (H : Hp) (pk : Addr) (i m : Nat) (vc vt : V) (at' : Int) (H' : Hp) : Prop where
  fr : H pk = none
  mo : Mo none H H'
  kn : ∃ ks, H' pk = some (.lst ks) ∧ ks.length ≤ i ∧ ∀ x ∈ ks, Tkey K x H'
  tk : ∃ pv ys, vt = .ref pv ∧ pv ≠ pk ∧ H' pv = some (.lst ys) ∧ ys.length ≤ 32 * m ∧ ∀ y ∈ ys, Tpl K y H'
  co : vc = .non ∨ ∃ c : Int, vc = .int c ∧ 1 ≤ c ∧ c ≤ 4
  a0 : -1 ≤ at'
  a1 : at' ≤ i
section
variable {pk : Addr} {i i' n n' : Nat} {vc vc' vt : V} {at' at'' : Int}
theorem nn {p : Addr} : (none : Option Addr) ≠ some p := fun e => nomatch e
theorem SB.go (B : SB K H pk i n vc vt at' H') (m : Mo none H' H1) : SB K H pk i n vc vt at' H1 := by
  obtain ⟨ks, k1, k2, k3⟩ := B.kn
  obtain ⟨pv, ys, rfl, t1, t2, t3, t4⟩ := B.tk
  exact ⟨B.fr, B.mo.trans m, ⟨ks, m.ox _ _ nn k1, k2, fun x hx => sv_Tkey.st _ _ _ (k3 x hx) m.ts⟩, ⟨pv, ys, rfl, t1, m.ox _ _ nn t2, t3, fun x hx => sv_Tpl.st _ _ _ (t4 x hx) m.ts⟩, B.co, B.a0, B.a1⟩
theorem SB.ex (B : SB K H pk i n vc vt at' H') (e : Ex H' H1) : SB K H pk i n vc vt at' H1 := B.go (B.mo.ex e)
theorem SB.wd (B : SB K H pk i n vc vt at' H') (h : i ≤ i') (h2 : n ≤ n') : SB K H pk i' n' vc vt at' H' := by
  obtain ⟨ks, k1, k2, k3⟩ := B.kn
  obtain ⟨pv, ys, rfl, t1, t2, t3, t4⟩ := B.tk
  exact ⟨B.fr, B.mo, ⟨ks, k1, by omega, k3⟩, ⟨pv, ys, rfl, t1, t2, by omega, t4⟩, B.co, B.a0, by have := B.a1; omega⟩
theorem SB.gt (B : SB K H pk i n vc vt at' H') (hi : n ≤ 1000) : Tl none (Tpl K) 0 (32 * n) vt H' := by
  obtain ⟨pv, ys, rfl, t1, t2, t3, t4⟩ := B.tk
  exact ⟨pv, ys, rfl, nn, t2, Nat.zero_le _, by omega, t4⟩
theorem SB.gk (B : SB K H pk i n vc vt at' H') (hi : i ≤ 1000) : Tl none (Tkey K) 0 1000 (.ref pk) H' := by
  obtain ⟨ks, k1, k2, k3⟩ := B.kn
  exact ⟨pk, ks, rfl, nn, k1, Nat.zero_le _, by omega, k3⟩
theorem SB.sat (B : SB K H pk i n vc vt at' H') (h0 : -1 ≤ at'') (h1 : at'' ≤ i) : SB K H pk i n vc vt at'' H' := ⟨B.fr, B.mo, B.kn, B.tk, B.co, h0, h1⟩
theorem SB.sco (B : SB K H pk i n vc vt at' H') (h : vc' = .non ∨ ∃ c : Int, vc' = .int c ∧ 1 ≤ c ∧ c ≤ 4) : SB K H pk i n vc' vt at' H' := ⟨B.fr, B.mo, B.kn, B.tk, h, B.a0, B.a1⟩
/-- another taken -/
theorem SB.stk {p : Addr} {ys : List V} (B : SB K H pk i n vc vt at' H') (m : Mo none H' H1) (hp : H' p = none) (h : H1 p = some (.lst ys)) (hl : ys.length ≤ 32 * n') (hy : ∀ y ∈ ys, Tpl K y H1) : SB K H pk i n' vc (.ref p) at' H1 := by
  have B1 := B.go m
  refine ⟨B1.fr, B1.mo, B1.kn, ⟨p, ys, rfl, fun e => ?_, h, hl, hy⟩, B1.co, B1.a0, B1.a1⟩
  obtain ⟨ks, k1, _⟩ := B.kn
  rw [e, k1] at hp
  cases hp
theorem SB.start {pt q : Addr} {o : HO} (hpk : H pk = none) (hpt : (upd H pk (.lst [])) pt = none) (hq : (upd (upd H pk (.lst [])) pt (.lst [])) q = none) : SB K H pk 0 0 .non (.ref pt) (-1) (upd (upd (upd H pk (.lst [])) pt (.lst [])) q o) := by
  have m1 : Mo none H (upd H pk (.lst [])) := mo_rn.ex (Ex.new hpk)
  have m2 := m1.ex (Ex.new (o := .lst []) hpt)
  have m3 := m2.ex (Ex.new (o := o) hq)
  exact ⟨hpk, (m1.trans m2).trans m3, ⟨[], (m2.trans m3).ox _ _ nn upd_same, Nat.le_refl _, fun x hx => by cases hx⟩, ⟨pt, [], rfl, fun e => (by rw [e, upd_same] at hpt; cases hpt), m3.ox _ _ nn upd_same, Nat.zero_le _, fun x hx => (by cases hx)⟩, .inl rfl, by decide, by decide⟩
theorem SB.tab {pt q : Addr} {o : HO} {c : Int} (B : SB K H pk i n vc vt at' H') (hpt : H' pt = none) (hq : (upd H' pt (.lst [])) q = none) (h : 1 ≤ c ∧ c ≤ 4) : SB K H pk i n (.int c) (.ref pt) (-1) (upd (upd H' pt (.lst [])) q o) := by
  have m2 := B.mo.ex (Ex.new (o := .lst []) hpt)
  have m3 := m2.ex (Ex.new (o := o) hq)
  exact ((B.stk (m2.trans m3) hpt (m3.ox _ _ nn upd_same) (Nat.zero_le _) fun x hx => by cases hx).sco (.inr ⟨c, rfl, h.1, h.2⟩)).sat (by decide) (by have := B.a0; have := B.a1; omega)
/-- known.append(key) -/
theorem SB.app {j : Nat} (B : SB K H pk i n vc vt at' H') (hi : i ≤ 1000) (hv : Gv none te σ H' (Tkey K)) (hj : σ[j]? = some (some (.ref pk))) (k : ∀ H1, SB K H pk (i + 1) n vc vt at' H1 → tz D σ H1) : tSeq (tDrop (tBM K "list" rAppend (tVar j) (tCons te tNil))) tz D σ H' := by
  obtain ⟨ks, k1, k2, k3⟩ := B.kn
  obtain ⟨pv, ys, rfl, t1, t2, t3, t4⟩ := B.tk
  refine q_app B.mo.r hv hj k1 nn (by omega) fun v H1 m1 tv g1 => k _ ?_
  have tsu : Ts K H1 (upd H1 pk (.lst (ks ++ [v]))) := fun b ws q => st_updL g1 q
  exact ⟨B.fr, mo_upd (B.mo.trans m1) B.fr, ⟨_, upd_same, by rw [List.length_append]; exact Nat.succ_le_succ k2, app_all (K := K) (fun x hx => sv_Tkey.st _ _ _ (k3 x hx) m1.ts) tv (fun _ h => h) inferInstance g1⟩,
    ⟨pv, ys, rfl, t1, by rw [upd_ne t1]; exact m1.ox _ _ nn t2, t3, fun x hx => sv_Tpl.st _ _ _ (sv_Tpl.st _ _ _ (t4 x hx) m1.ts) tsu⟩, B.co, B.a0, by have := B.a1; omega⟩
end
abbrev Rw (w z : Str) : Bool → Prop := fun b => (b = true → w = z) ∧ (b = false → w ≠ z)
/-- word == z and .. -/
theorem gt_wAnd {i : Nat} {w z : Str} (hi : σ[i]? = some (some (.str w))) (h1 : GtR none (tTest (tOp rEq (tVar i) (tC (.str z)))) σ H (Rw w z)) (h : w = z → GtR none u σ H ATb) : GtR none (tAnd (tTest (tOp rEq (tVar i) (tC (.str z)))) u) σ H ATb :=
  gt_and (S := Rw w z) (W := ATb) h1 (fun e => h (e.1 rfl)) (fun _ => trivial) fun _ _ _ => trivial
theorem gv_ixLast {lo hi : Nat} (h : Gv pu te σ H (Tt K e lo hi)) (h1 : 1 ≤ lo) : Gv pu (tOp (rIxT K) te (tUn (rU fun i => .int (-i)) (tC (.int 1)))) σ H e := fun H1 m Q q => h H1 m _ fun v H2 m2 t => by
  obtain ⟨p, xs, rfl, hp, l0, l1, hx⟩ := t
  have hne : xs ≠ [] := fun e => by rw [e, List.length_nil] at l0; omega
  have e := List.dropLast_concat_getLast hne
  have h2 := L2.atI_last xs.dropLast (xs.getLast hne)
  rw [e] at h2
  exact ⟨1, rfl, p, xs, -1, _, rfl, rfl, hp, h2, q _ H2 m2 (hx _ (List.getLast_mem hne))⟩
theorem gt_w {i : Nat} {w z : Str} (hi : σ[i]? = some (some (.str w))) : GtR none (tTest (tOp rEq (tVar i) (tC (.str z)))) σ H (Rw w z) := fun H1 m Q q => gt_et (b := decide (V.str w = V.str z)) (fun H2 m2 => et_test (ev_op (ev_var hi) ev_c (rv_eq rfl))) H1 m Q fun b H2 m2 hb => q b H2 m2 ⟨fun h => by
  rw [h] at hb
  exact V.str.inj (of_decide_eq_true hb.symm), fun h e => by
  rw [h, e] at hb
  simp at hb⟩
theorem gn_cat {a b c d : Nat} (s : Sv K e) (h1 : Gv pu ta σ H (Tl pu e a b)) (h2 : Gv pu tb σ H (Tl pu e c d)) (hz : b + d ≤ 1000000) : GvN pu (tOp rCat ta tb) σ H e (a + c) (b + d) := fun H1 m Q q =>
  h1 H1 m _ fun x H2 m2 t1 => h2 H2 (m.trans m2) _ fun y H3 m3 t2 => by
    obtain ⟨p, xs, rfl, e1, e2, e3, e4, e5⟩ := (sb_Tl (K := K)).st _ _ _ t1 m3
    obtain ⟨r, ys, rfl, f1, f2, f3, f4, f5⟩ := t2
    refine ⟨p, r, xs, ys, rfl, rfl, e2, f2, sz (by omega), fun p' hp => ?_⟩
    have m4 := m2.trans m3
    have m5 := m4.ex (Ex.new (o := .lst (xs ++ ys)) hp)
    refine q p' _ _ (m4.fresh hp) (m4.trans m5) upd_same (by rw [List.length_append]; omega) (by rw [List.length_append]; omega) fun z hz => ?_
    rcases List.mem_append.mp hz with hz | hz
    · exact s.st _ _ _ (e5 z hz) m5.ts
    · exact s.st _ _ _ (f5 z hz) m5.ts
theorem gv_subA (h1 : Gv pu ta σ H TiA) (h2 : Gv pu tb σ H TiA) : Gv pu (tOp (rI0 fun i j => .int (i - j)) ta tb) σ H TiA := gv_op (K := []) inferInstance h1 h2 fun x y H2 Q m t1 t2 q => by
  obtain ⟨i, rfl⟩ := t1
  obtain ⟨j, rfl⟩ := t2
  exact ⟨i, j, rfl, rfl, q _ H2 m.r ⟨_, rfl⟩⟩
theorem row_parts (t : Trow K v H) : Tt K (Tpart K) 1 6 v H := by
  obtain ⟨p, w, ps, rfl, h1, h2, h3, h4, h5, _⟩ := t
  refine ⟨p, _, rfl, h1, by rw [List.length_cons]; omega, by rw [List.length_cons]; omega, fun x hx => ?_⟩
  rcases List.mem_cons.mp hx with rfl | hx
  · exact .inr (.inl ⟨w, rfl, h2, h3⟩)
  · obtain ⟨i, hi, rfl⟩ := List.mem_iff_getElem.mp hx
    exact (h5 i _ (List.getElem?_eq_getElem hi)).2
end
section
variable {P : Program} {w : World} {K : PySem.W.Frag} {mg : Str → Option Value} {base : Heap}
def sp_law_stood (K : PySem.W.Frag) : Sp := spN [Tt K (Trow K) 0 300] (To (Ti 0 300))
-- slots: 0 _law_strip, 1 _law_known, 2 _law_begun, 3 _law_whens, 4 _law_columns, 5 _law_at, 6 _law_taken, 7 _law_number, 8 _law_strip_row, 9 _law_word, 10 _law_key, 11 _law_some, 12 _law_place
theorem SC__law_stood : FnScope ["_law_strip", "_law_known", "_law_begun", "_law_whens", "_law_columns", "_law_at", "_law_taken", "_law_number", "_law_strip_row", "_law_word", "_law_key", "_law_some", "_law_place"] ["_law_strip"] (defScope (top 83)) := ⟨rfl, rfl, rfl, by decide +kernel, rfl, by decide +kernel, by decide +kernel⟩
def rcc : List Str := ["row", "cell", "close"]
theorem cl_law_stood (T : Txt w K mg) : Cl P w K mg base CX0 7 "_law_stood" (sp_law_stood K) := by
  obtain ⟨fd, F, hm⟩ := T.df 47 "_law_stood" 83 rfl
  refine cl0 F hm SC__law_stood (fun vs H Q E h => by obtain ⟨⟨v, _, rfl, tv, rfl⟩, k⟩ := h; rfl) (fun _ _ _ _ _ _ us hl => match us, hl with | [_], _ => rfl) fun cdv A outer s H vs Q E hr h => ?_
  obtain ⟨⟨v, _, rfl, tv, rfl⟩, k⟩ := h
  refine ⟨_, (pss_cons (ps_asg (pe_tup (pa_cons (pe_lst pa_nil) (pa_cons pe_bl (pa_cons pe_int (pa_cons pe_non (pa_cons (pe_un un_neg pe_int) (pa_cons (pe_lst pa_nil) pa_nil))))))) (pg_tup (n := 6) rfl (pgs_cons (pg_name (i := 1) SC__law_stood.nd rfl (Or.inl rfl)) (pgs_cons (pg_name (i := 2) SC__law_stood.nd rfl (Or.inl rfl)) (pgs_cons (pg_name (i := 3) SC__law_stood.nd rfl (Or.inl rfl)) (pgs_cons (pg_name (i := 4) SC__law_stood.nd rfl (Or.inl rfl)) (pgs_cons (pg_name (i := 5) SC__law_stood.nd rfl (Or.inr rfl)) (pgs_cons (pg_name (i := 6) SC__law_stood.nd rfl (Or.inl rfl)) pgs_nil))))))))
      (pss_cons (ps_for PassesOwn.never rfl (pi_range1 rfl T.f_range (pa_cons (pe_callB call_len_seq rfl T.f_len boot_len (pa_cons (pv 0) pa_nil)) pa_nil)) (pg_name (i := 7) SC__law_stood.nd rfl (Or.inl rfl))
        (pss_cons (ps_set (i := 8) SC__law_stood.nd rfl (Or.inl rfl) (pe_ix ix_tup (pv 0) (pv 7) (fun _ _ => rfl)))
        (pss_cons (ps_if (pt_not (pt_val (pc (cl_law_is_row T) hr (by decide) rfl (pa_cons (pv 8) pa_nil)))) (pss_one (ps_ret (pv 7))) pss_nil)
        (pss_cons (ps_set (i := 9) SC__law_stood.nd rfl (Or.inl rfl) (pe_ix ix_tup (pv 8) pe_int (fun _ _ => rfl)))
        (pss_cons (ps_if (pt_cmpR op_in_seq (pv 9) (pe_tup (pa_cons pe_str (pa_cons pe_str pa_nil))) (by rfl)) (pss_cons (ps_set (i := 10) SC__law_stood.nd rfl (Or.inl rfl) (pe_tup (pa_cons (pv 9) (pa_cons (pe_ix ix_tup (pv 8) pe_int (fun _ _ => rfl)) (pa_cons (pe_ix ix_list (pe_lst (pa_cons pe_int (pa_cons (pe_ix ix_tup (pv 8) (pe_un un_neg pe_int) (fun _ _ => rfl)) pa_nil))) (pe_callTy call_int1 rfl T.f_int boot_int (pa_cons (pe_cmpR (op_eqD hr.units) (pe_slice sl_tupA (pv 8) po_none (po_some pe_int)) (pe_tup (pa_cons pe_str (pa_cons pe_str pa_nil))) (nomark _)) pa_nil)) (fun _ _ => rfl)) pa_nil)))))
          (pss_cons (ps_if (PW.pt (pw_or (pt_val (pv 2)) (pw_or1 (pt_cmpR (op_inD (hu65 hr)) (pv 10) (pv 1) (by rfl))))) (pss_one (ps_ret (pv 7))) pss_nil)
          (pss_cons (ps_expr (pe_bm PySem.F.plainAttrs_list PySem.F.slot_list_append PySem.F.type_list_append mt_append (pv 1) (pa_cons (pv 10) pa_nil)))
          (pss_one ps_continue)))) pss_nil)
        (pss_cons (ps_set (i := 2) SC__law_stood.nd rfl (Or.inl rfl) pe_bl)
        (pss_cons (ps_if (pt_cmpR op_ne (pe_cmpR op_isN (pv 4) pe_non (nomark _)) (pe_cmpR op_notIn_seq (pv 9) (pe_tup (pa_cons pe_str (pa_cons pe_str (pa_cons pe_str pa_nil)))) (by rfl)) (nomark _)) (pss_one (ps_ret (pv 7))) pss_nil)
        (pss_cons (ps_if (pt_cmpR op_eq (pv 9) pe_str (nomark _)) (pss_one (ps_asg (pe_tup (pa_cons (pe_ix ix_tup (pv 8) pe_int (fun _ _ => rfl)) (pa_cons (pe_un un_neg pe_int) (pa_cons (pe_lst pa_nil) pa_nil)))) (pg_tup (n := 3) rfl (pgs_cons (pg_name (i := 4) SC__law_stood.nd rfl (Or.inl rfl)) (pgs_cons (pg_name (i := 5) SC__law_stood.nd rfl (Or.inr rfl)) (pgs_cons (pg_name (i := 6) SC__law_stood.nd rfl (Or.inl rfl)) pgs_nil)))))) pss_nil)
        (pss_cons (ps_if (pt_cmpR op_eq (pv 9) pe_str (nomark _)) (pss_one (ps_set (i := 5) SC__law_stood.nd rfl (Or.inr rfl) (pe_op op_add (pv 5) pe_int))) pss_nil)
        (pss_cons (ps_if (pt_cmpR op_eq (pv 9) pe_str (nomark _)) (pss_cons (ps_set (i := 11) SC__law_stood.nd rfl (Or.inl rfl) (pc (cl_law_cell_taken T) hr (by decide) rfl (pa_cons (pv 8) (pa_cons (pv 6) (pa_cons (pv 5) (pa_cons (pv 4) pa_nil))))))
          (pss_one (ps_set (i := 6) SC__law_stood.nd rfl (Or.inl rfl) (pe_op op_cat (pv 6) (pv 11))))) pss_nil)
        (pss_cons (ps_if (PW.pt (pw_or (PW.pt (pw_and (pt_cmpR op_eq (pv 9) pe_str (nomark _)) (pw_and1 (pt_cmpR op_gt (pv 5) pe_int (nomark _))))) (pw_or1 (PW.pt (pw_and (pt_cmpR op_eq (pv 9) pe_str (nomark _)) (pw_and1 (PW.pt (pw_or (pt_cmpR op_lt (pv 5) pe_int (nomark _)) (pw_or1 (pt_cmpR (op_eqD hr.units) (pv 11) (pe_lst pa_nil) (nomark _))))))))))) (pss_one (ps_ret (pv 7))) pss_nil)
        (pss_cons (ps_if (PW.pt (pw_and (pt_cmpR op_eq (pv 9) pe_str (nomark _)) (pw_and1 (PW.pt (pw_or (pt_cmpR op_lt (pv 5) pe_int (nomark _)) (pw_or1 (pt_val (pe_callB (cr_any rfl) rfl T.f_any boot_any (pa_cons (pe_lc (own := [("_law_place", 12)]) (g := gName 12) (tt := tYes) rfl SC__law_stood.nd (pi_list (pv 6)) (blkOk_by (own := [("_law_place", 12)]) (N := ["_law_strip", "_law_known", "_law_begun", "_law_whens", "_law_columns", "_law_at", "_law_taken", "_law_number", "_law_strip_row", "_law_word", "_law_key", "_law_some", "_law_place"]) (sc := defScope (top 83)) (by decide +kernel)) (fun _ _ _ _ _ => (pg_name (i := 12) SC__law_stood.nd rfl (Or.inl rfl))) (fun _ _ _ _ _ => pts_nil) (fun _ _ _ _ _ => (pe_cmpR op_gt (pe_ix (show IxR _ (rIxT K) from ix_tup) (pv 12) pe_int (fun _ _ => rfl)) (pv 5) (nomark _)))) pa_nil))))))))) (pss_one (ps_ret (pv 7))) pss_nil)
        (pss_cons (ps_set (i := 4) SC__law_stood.nd rfl (Or.inl rfl) (pe_ix ix_list (pe_lst (pa_cons (pv 4) (pa_cons pe_non pa_nil))) (pe_callTy call_int1 rfl T.f_int boot_int (pa_cons (pe_cmpR op_eq (pv 9) pe_str (nomark _)) pa_nil)) (fun _ _ => rfl)))
        (pss_cons (ps_set (i := 3) SC__law_stood.nd rfl (Or.inl rfl) (pe_op op_sub (pe_op op_add (pv 3) (pe_callTy call_int1 rfl T.f_int boot_int (pa_cons (pe_cmpR op_eq (pv 9) pe_str (nomark _)) pa_nil))) (pe_callTy call_int1 rfl T.f_int boot_int (pa_cons (pe_cmpR op_eq (pv 9) pe_str (nomark _)) pa_nil))))
        (pss_one (ps_if (pt_not (pt_chain op_le op_le pe_int (pv 3) pe_int)) (pss_one (ps_ret (pv 7))) pss_nil))))))))))))))))
      (pss_one (ps_ret (pe_ix ix_list (pe_lst (pa_cons pe_non (pa_cons (pe_callB call_len_seq rfl T.f_len boot_len (pa_cons (pv 0) pa_nil)) pa_nil))) (pe_callTy call_int1 rfl T.f_int boot_int (pa_cons (pe_or (pe_cmpR op_notN (pv 4) pe_non (nomark _)) (pe_one (pe_cmpR op_gt (pv 3) pe_int (nomark _)))) pa_nil)) (fun _ _ => rfl)))))), ?_⟩
  obtain ⟨p, xs, rfl, hst, _, xl, hx⟩ := tv
  refine ⟨Nat.zero_le _, fun pk hpk => ⟨1, rfl, Nat.zero_le _, fun pt hpt => ⟨(by show 6 ≤ sizeLine; decide), fun q hq => ⟨q, _, rfl, st_of upd_same, rfl, _, _, rfl, _, _, rfl, _, _, rfl, _, _, rfl, _, _, rfl, _, _, rfl, rfl, ?_⟩⟩⟩⟩
  have B0 := SB.start (K := K) (o := .tup [.ref pk, .bl false, .int 0, .non, .int (-1), .ref pt]) hpk hpt hq
  refine q_rng (n := xs.length) (ev_cb (ea1 (ev_var rfl)) (rc_lenT (B0.mo.t hst))) (by omega) (by omega) (fun i σ' H' => ∃ bg wh vc at' vt o7 o8 o9 o10 o11 o12, SB K H pk i i vc vt at' H' ∧ σ' = [some (.ref p), some (.ref pk), some (.bl bg), some (.int wh), some vc, some (.int at'), some vt, o7, o8, o9, o10, o11, o12]) (fun H2 e2 => ⟨_, _, _, _, _, _, _, _, _, _, _, B0.ex e2, rfl⟩) (fun i σ' H2 hi q => ?_) (fun σ' H2 q => ?_)
  · obtain ⟨bg, wh, vc, at', vt, o7, o8, o9, o10, o11, o12, B, rfl⟩ := q
    have hi2 : i < xs.length := by omega
    obtain ⟨pr, wd, ps, ex, hr1, w1, w2, p1, hps, hsh⟩ := hx _ (List.getElem_mem hi2)
    have hat : xs[i]? = some (.ref pr) := by rw [List.getElem?_eq_getElem hi2, ex]
    have trow : ∀ {H3 : Hp}, Mo none H H3 → Trow K (.ref pr) H3 := fun {H3} m => sv_Trow.st _ _ _ (ex ▸ hx _ (List.getElem_mem hi2)) m.ts
    have ret : ∀ {H3 : Hp}, Mo none H H3 → Q (.int i) H3 := fun {H3} m => k _ H3 m (.inr ⟨i, rfl, by omega, by omega⟩)
    have hrow : ∀ {H3 : Hp} {σ : L2.St} (j : Nat) (y : V), Mo none H H3 → σ[8]? = some (some (.ref pr)) → (V.str wd :: ps)[j]? = some y → Ev (tOp (rIxT K) (tVar 8) (tC (.int (j : Nat)))) σ H3 y := fun {H3 σ} j y m h0 hj => ev_op (ev_var h0) ev_c (rv_ixT (m.t hr1) (atI_nat hj))
    have twd : ∀ {H3 : Hp}, Tq 12 (.str wd) H3 := fun {H3} => ⟨wd, rfl, w1, w2⟩
    refine q_asg (ev_op (ev_var rfl) (ev_var rfl) (rv_ixT (B.mo.t hst) (atI_nat hat))) fun H3 e3 => ?_
    have B3 := B.ex e3
    refine y_when (R := ATb) B3.mo.r (gt_not (S := ATb) (gt_b (gv_callN (es := [Trow K]) (T := Tb) (gva_cons (K := K) inferInstance (gv_v (K := K) rfl (trow B3.mo)) gva_nil))) fun _ _ => trivial) (fun H4 m4 _ => ?_) (fun H4 m4 _ => ?_)
    · exact s_ret (ev_var rfl) fun H5 e5 => ret ((B3.go m4).ex e5).mo
    have B4 := B3.go m4
    refine q_asg (hrow 0 _ B4.mo rfl rfl) fun H5 e5 => ?_
    have B5 := B4.ex e5
    refine q_when (et_test (ev_inU (xs := (["style", "counter"] : List Str).map V.str) (ev_var rfl) (eu_tup (ea2 ev_c ev_c) (by decide)) rfl rfl)) (fun hin H6 e6 => ?_) (fun hin H6 e6 => ?_)
    · have B6 := B5.ex e6
      have hne : ps ≠ [] := by
        rw [inV_strs] at hin
        rcases List.mem_cons.mp (of_decide_eq_true hin) with e | e
        · exact hsh.2.2.2 e
        · rw [List.mem_singleton] at e
          obtain ⟨c, y, j, rfl, _⟩ := hsh.1 e
          exact List.cons_ne_nil _ _
      have tps : ∀ {H3 : Hp}, Mo none H H3 → Tt K (Tpart K) 2 6 (.ref pr) H3 := fun {H3} m => by
        obtain ⟨pr', zs, e, h1, h2, h3, h4⟩ := row_parts (trow m)
        cases e
        refine ⟨pr, V.str wd :: ps, rfl, m.t hr1, ?_, ?_, fun x hx => ?_⟩
        · rw [List.length_cons]
          have := List.length_pos_iff.mpr hne
          omega
        · rw [List.length_cons]; omega
        · rcases List.mem_cons.mp hx with rfl | hx
          · exact .inr (.inl twd)
          · obtain ⟨j, hj, rfl⟩ := List.mem_iff_getElem.mp hx
            exact sv_Tpart.st _ _ _ (hps j _ (List.getElem?_eq_getElem hj)).2 m.ts
      refine y_asg (T := Tkey K) B6.mo.r (gv_tup (K := K) (es := [Tq 12, Tpart K, Tpart K]) inferInstance (Nat.le_of_ble_eq_true rfl) (gva_cons (K := K) inferInstance (gv_v (K := K) rfl twd) (gva_cons (K := K) inferInstance (gv_ixT (K := K) (lo := 2) (hi := 6) (n := 1) inferInstance (gv_v (K := K) rfl (tps B6.mo)) (gv_iw gv_int (by decide) (by decide)) (by decide))
        (gva_cons (K := K) inferInstance (gv_ixL (K := K) (e := Tpart K) (lo := 2) (hi := 2) (n := 1) inferInstance (gv_lst (K := K) (e := Tpart K) inferInstance (by decide) (gve_cons (K := K) inferInstance (gv_c fun _ => .inl ⟨0, rfl, by decide, by decide⟩) (gve_cons (K := K) inferInstance (gv_ixLast (K := K) (gv_v (K := K) rfl (tps B6.mo)) (by decide)) gve_nil)))
          (gv_intB (gv_eqD (K := K) (n := 2) (m := 1) inferInstance (gv_slT (K := K) (e := Tpart K) inferInstance (gv_v (K := K) rfl (tps B6.mo)) gvo_none (gvo_some gv_int)) (gv_pairq (K := K) (n := 12) (by decide +kernel) (by decide +kernel)) (dpt_t dpt_part) (dpt_t dpt_q) (by decide) (by decide))) (by decide)) gva_nil)))) fun vk H7 m7 tk => ?_
      have B7 := B6.go m7
      refine y_when B7.mo.r (gt_or1 (gt_b (gv_v (K := K) rfl ⟨_, rfl⟩)) (gt_test (gv_inD (K := K) inferInstance (gv_v (K := K) rfl tk) (gv_v (K := K) rfl (B7.gk (by omega))) dpt_key dpt_key (by decide) (by decide)))) (fun H8 m8 _ => ?_) (fun H8 m8 _ => ?_)
      · exact s_ret (ev_var rfl) fun H9 e9 => ret ((B7.go m8).ex e9).mo
      · have B8 := B7.go m8
        exact SB.app (K := K) B8 (by omega) (gv_v (K := K) rfl (sv_Tkey.st _ _ _ tk m8.ts)) rfl fun H9 B9 => ⟨_, _, _, _, _, _, _, _, _, _, _, B9.wd (Nat.le_refl _) (Nat.le_succ _), rfl⟩
    · have B6 := B5.ex e6
      refine q_asg ev_c fun H7 e7 => ?_
      have B7 := B6.ex e7
      refine q_when (et_test (ev_op (ev_op (ev_var rfl) ev_c rv_is) (ev_niU (xs := rcc.map V.str) (ev_var rfl) (eu_tup (ea_cons ev_c (ea2 ev_c ev_c)) (by decide)) rfl rfl) (rv_ne rfl))) (fun _ H8 e8 => ?_) (fun hcc H8 e8 => ?_)
      · exact s_ret (ev_var rfl) fun H9 e9 => ret ((B7.ex e8).ex e9).mo
      have B8 := B7.ex e8
      have hco : wd ∈ rcc → vc ≠ .non := fun hm e => by
        rw [Bool.not_eq_false', decide_eq_true_iff] at hcc
        have h2 := V.bl.inj hcc
        rw [inV_strs, e, decide_eq_true hm, decide_eq_true rfl] at h2
        cases h2
      refine y_whenX (fun σ2 H9 => ∃ vc at' vt, SB K H pk i i vc vt at' H9 ∧ (wd ∈ rcc → vc ≠ .non) ∧ σ2 = [some (.ref p), some (.ref pk), some (.bl true), some (.int wh), some vc, some (.int at'), some vt, some (.int i), some (.ref pr), some (.str wd), o10, o11, o12]) B8.mo.r (gt_w (z := "table") rfl) (fun H9 m9 hw kk => ?_) (fun H9 m9 _ => ⟨vc, at', vt, B8.go m9, hco, rfl⟩) fun σ2 H9 q => ?_
      · have B9 := B8.go m9
        obtain ⟨c, t, rfl, hc⟩ := hsh.2.2.1 (hw.1 rfl)
        refine hrow 1 (.int c) B9.mo rfl rfl H9 (Ex.refl _) _ fun H10 e10 => ⟨1, rfl, Nat.zero_le _, fun pt hpt => ⟨(by show 3 ≤ sizeLine; decide), fun q hq => ⟨q, _, rfl, st_of upd_same, rfl, _, _, rfl, _, _, rfl, _, _, rfl, rfl, kk _ _ ⟨_, _, _, (B9.ex e10).tab hpt hq hc, fun _ e => (by cases e), rfl⟩⟩⟩⟩
      clear hco hcc B8 B7 B6 B5 B4 B3 B
      obtain ⟨vc, at', vt, B9, hco, rfl⟩ := q
      refine y_whenX (fun σ2 H9 => ∃ at', SB K H pk (i + 1) i vc vt at' H9 ∧ σ2 = [some (.ref p), some (.ref pk), some (.bl true), some (.int wh), some vc, some (.int at'), some vt, some (.int i), some (.ref pr), some (.str wd), o10, o11, o12]) B9.mo.r (gt_w (z := "row") rfl) (fun H10 m10 hw kk => ?_) (fun H10 m10 _ => ⟨at', (B9.go m10).wd (Nat.le_succ _) (Nat.le_refl _), rfl⟩) fun σ2 H10 q => ?_
      · have B10 := B9.go m10
        exact s_asg (ev_op (ev_var rfl) ev_c rv_I0) fun H11 e11 => kk _ _ ⟨_, ((B10.ex e11).wd (Nat.le_succ _) (Nat.le_refl _)).sat (by have := B9.a0; omega) (by have := B9.a1; omega), rfl⟩
      obtain ⟨at2, B10, rfl⟩ := q
      refine y_whenX (fun σ2 H9 => ∃ vt o11, SB K H pk (i + 1) (i + 1) vc vt at2 H9 ∧ (wd = "cell" → ∃ v11, o11 = some v11 ∧ Tl none (Tpl K) 0 32 v11 H9) ∧ σ2 = [some (.ref p), some (.ref pk), some (.bl true), some (.int wh), some vc, some (.int at2), some vt, some (.int i), some (.ref pr), some (.str wd), o10, o11, o12]) B10.mo.r (gt_w (z := "cell") rfl) (fun H11 m11 hw kk => ?_) (fun H11 m11 hw => ⟨vt, o11, (B10.go m11).wd (Nat.le_refl _) (Nat.le_succ _), fun e => absurd e (hw.2 rfl), rfl⟩) fun σ2 H11 q => ?_
      · have B11 := B10.go m11
        have ew := hw.1 rfl
        obtain ⟨d, ac, t, rfl, d0, d1, a0, a1⟩ := hsh.2.1 ew
        have hvc := hco (by rw [ew]; decide)
        obtain ⟨c, rfl, c0, c1⟩ := B11.co.resolve_left hvc
        have hr2 : SqT K H pr [.str "cell", .int d, .int ac, t] := ew ▸ hr1
        refine y_asg (T := Tl none (Tpl K) 0 32) B11.mo.r (gv_spA (vs := [.ref pr, vt, .int at2, .int c]) (fun H12 m12 => ea_cons (ev_var rfl) (ea_cons (ev_var rfl) (ea2 (ev_var rfl) (ev_var rfl)))) fun H12 Q m12 q => ⟨pr, d, ac, t, vt, at2, c, rfl, (B11.go m12).mo.t hr2, ⟨d0, d1, a0, a1⟩, ?_, ⟨B11.a0, by have := B11.a1; omega, c0, c1⟩, q⟩) fun vs H12 m12 ts => ?_
        · obtain ⟨pv, ys, e, n1, n2, n3, n4, n5⟩ := (B11.go m12).gt (by omega)
          exact ⟨pv, ys, e, n1, n2, n3, by omega, n5⟩
        · have B12 := B11.go m12
          refine gn_cat (K := K) (e := Tpl K) inferInstance (gv_v (K := K) rfl (B12.gt (by omega))) (gv_v (K := K) rfl ts) (by omega) H12 B12.mo.r _ fun pn H13 ys hp m13 g13 _ yl hy => kk _ _ ⟨.ref pn, some vs, B12.stk m13 hp g13 (by omega) hy, fun _ => ⟨vs, rfl, (sb_Tl (K := K)).st _ _ _ ts m13⟩, rfl⟩
      clear B10 B9 vt
      obtain ⟨vt, o11, B11, h11, rfl⟩ := q
      have tat : ∀ {H3 : Hp}, Ti at2 at2 (.int at2) H3 := fun {H3} => ⟨at2, rfl, Int.le_refl _, Int.le_refl _⟩
      refine y_when B11.mo.r (gt_or1 (gt_wAnd rfl (gt_w rfl) fun _ => gt_test (gv_cmp (gv_v (K := K) rfl tat) gv_int)) (gt_wAnd rfl (gt_w rfl) fun ew => gt_or1 (gt_test (gv_cmp (gv_v (K := K) rfl tat) gv_int)) (by
        obtain ⟨v11, rfl, t11⟩ := h11 ew
        exact gt_test (gv_eqD (K := K) (n := 2) (m := 1) inferInstance (gv_v (K := K) rfl t11) (gv_nilL (e := Tq 0)) (dpt_l dpt_pl) (dpt_l dpt_q) (by decide) (by decide))))) (fun H12 m12 _ => ?_) (fun H12 m12 _ => ?_)
      · exact s_ret (ev_var rfl) fun H13 e13 => ret ((B11.go m12).ex e13).mo
      have B12 := B11.go m12
      refine y_when B12.mo.r (gt_wAnd rfl (gt_w rfl) fun _ => gt_or1 (gt_test (gv_cmp (gv_v (K := K) rfl tat) gv_int)) (gt_b (gv_any (K := K) (gv_lcLst (K := K) (e0 := Tpl K) (e := Tb) (lo := 0) (hi := 32 * (i + 1)) (gv_v (K := K) rfl (B12.gt (by omega))) (by omega) inferInstance inferInstance (fun x => rfl) fun x H13 m13 tx => gv_cmpA (gv_pl0 (gv_v (K := K) rfl tx)) (gv_v (K := K) rfl ⟨_, rfl⟩))))) (fun H13 m13 _ => ?_) (fun H13 m13 _ => ?_)
      · exact s_ret (ev_var rfl) fun H14 e14 => ret ((B12.go m13).ex e14).mo
      have B13 := B12.go m13
      refine y_asg (T := To (Ti 1 4)) B13.mo.r (gv_ixL (K := K) (e := To (Ti 1 4)) (lo := 2) (hi := 2) (n := 1) inferInstance (gv_lst (K := K) (e := To (Ti 1 4)) inferInstance (by decide) (gve_cons (K := K) inferInstance (gv_v (K := K) rfl B13.co) (gve_cons (K := K) inferInstance (gv_c fun _ => .inl rfl) gve_nil))) (gv_intB (gv_eqQ (gv_v (K := K) rfl twd) (gv_q (n := 12) (by decide) (by decide +kernel)))) (by decide)) fun vc2 H14 m14 tc => ?_
      have B14 := (B13.go m14).sco tc
      refine y_asg (T := TiA) B14.mo.r (gv_subA (gv_addA (gv_v (K := K) rfl ⟨wh, rfl⟩) (gv_A (gv_intB (gv_eqQ (gv_v (K := K) rfl twd) (gv_q (n := 12) (by decide) (by decide +kernel)))))) (gv_A (gv_intB (gv_eqQ (gv_v (K := K) rfl twd) (gv_q (n := 12) (by decide) (by decide +kernel)))))) fun vw H15 m15 tw => ?_
      have B15 := B14.go m15
      obtain ⟨wh2, rfl⟩ := tw
      refine s_when (et_not (et_test (ev_chain ev_c (ev_var rfl) ev_c))) (fun _ H16 e16 => ?_) (fun _ H16 e16 => ?_)
      · exact s_ret (ev_var rfl) fun H17 e17 => ret ((B15.ex e16).ex e17).mo
      · exact ⟨_, _, _, _, _, _, _, _, _, _, _, B15.ex e16, rfl⟩
  · obtain ⟨bg, wh, vc, at', vt, o7, o8, o9, o10, o11, o12, B, rfl⟩ := q
    refine s_ret (ev_noneOr (ev_cb (ea1 (ev_var rfl)) (rc_lenT (B.mo.t hst))) (ev_orV (ev_op (ev_var rfl) ev_c rv_isn) fun _ => ev_op (ev_var rfl) ev_c rv_I0)) fun H3 e3 => k _ H3 (B.ex e3).mo ?_
    split
    · exact .inr ⟨_, rfl, by omega, by omega⟩
    · exact .inl rfl
end
end Pk
set_option Elab.async false
set_option linter.all false
set_option maxRecDepth 100000
set_option maxHeartbeats 4000000
/-! a tuple times a small number, or none. -/
namespace Pk
open PySem PySem.Spec PyProof.Rows L2 Evl
theorem tuple_mul1 (l : Addr) (items : Array Value) (n : Nat) (dd : Option Addr) (sl : Array (Option Value)) (x : Int) (u : Tok) (c0 : (decide (x < -(2 ^ 63)) || decide (x ≥ 2 ^ 63)) = false) (c1 : (items.isEmpty || x == 1) = true) :
    Meets (Builtin.«tuple.__mul__» ⟨[.ref l, .int x u], []⟩) (fun _ R s => s.heap.get? l = some { cls := .type "tuple", dict := dd, data := .seq items n, slots := sl } ∧ R (.ok (.ret (Value.ref l))) s) :=
  .of_wp fun prog w A R s h => by
    obtain ⟨hp, g, d, tk, os⟩ := s
    obtain ⟨hl, h⟩ := h
    have f1 := AutoSeq1.idx_int
    wp_walk using wpAny_loadPart' hl
    refine wpAny_ite_false (decide_eq_false (by rw [c0]; exact Bool.false_ne_true)) ?_
    wp_walk using wpAny_loadPart' hl
    exact ⟨_, rfl, h⟩
theorem tuple_mul0 (l : Addr) (items : Array Value) (n : Nat) (dd : Option Addr) (sl : Array (Option Value)) (x : Int) (u : Tok) (c0 : (decide (x < -(2 ^ 63)) || decide (x ≥ 2 ^ 63)) = false) (c1 : (items.isEmpty || x == 1) = false) (c2 : (decide (x ≤ 0) || items.isEmpty) = true) :
    Meets (Builtin.«tuple.__mul__» ⟨[.ref l, .int x u], []⟩) (fun _ R s => s.heap.get? l = some { cls := .type "tuple", dict := dd, data := .seq items n, slots := sl } ∧
      R (.ok (.ret (Value.ref s.heap.objs.size))) { s with heap := s.heap.push { cls := Value.type "tuple", data := Data.seq #[] }, toks := s.toks }) :=
  .of_wp fun prog w A R s h => by
    obtain ⟨hp, g, d, tk, os⟩ := s
    obtain ⟨hl, h⟩ := h
    have f1 := AutoSeq1.idx_int
    wp_walk using wpAny_loadPart' hl
    refine wpAny_ite_false (decide_eq_false (by rw [c0]; exact Bool.false_ne_true)) ?_
    wp_walk using wpAny_loadPart' hl
    exact ⟨_, rfl, h⟩
section
variable {X : Cx}
def rMulT (K : PySem.W.Frag) : R2 := fun x y H Q => ∃ l k xs, x = .ref l ∧ y = .int k ∧ SqT K H l xs ∧ xs ≠ [] ∧ -1000 ≤ k ∧ k ≤ 1000 ∧ xs.length ≤ 1000 ∧ ∀ p H', Ex H H' → SqT K H' p (List.replicate k.toNat xs).flatten → Q (.ref p) H'
theorem op_mult : OpR X (binaryOp .Mult) (rMulT X.K) := by
  intro pins s σ H x y v u Q I rx ry h
  obtain ⟨l, k, xs, rfl, rfl, hT, hne, h1, h2, hz, q⟩ := h
  by_cases hk : 2 ≤ k
  · exact op_repT pins s σ H _ _ v u Q I rx ry ⟨l, k, xs, rfl, rfl, hT, hne, hk, h2, hz, fun p hp => q p _ (Ex.new hp) (st_of upd_same)⟩
  cases rx
  obtain ⟨t, rfl⟩ := ry
  obtain ⟨its, r, ⟨⟨cls, dd, data, sl⟩, ho, hc, n, hd⟩, hs⟩ := I.tuple hT
  simp only at hc hd
  subst hc hd
  have hle : its.length = xs.length := r.length.symm
  have hn : its ≠ [] := fun e => hne (by
    rw [e] at hle
    exact List.eq_nil_of_length_eq_zero hle.symm)
  have hi : its.toArray.isEmpty = false := by
    cases its with
    | nil => exact absurd rfl hn
    | cons a b => rfl
  have c0 : (decide (k < -(2 ^ 63)) || decide (k ≥ 2 ^ 63)) = false := by
    rw [decide_eq_false (by omega), decide_eq_false (by omega)] <;> rfl
  by_cases h3 : k = 1
  · have c1 : (its.toArray.isEmpty || k == 1) = true := by rw [hi, h3]; rfl
    refine wpAny_binaryOp_repeat_ref (T := "tuple") (U := "int") (by decide) ⟨_, ho, rfl⟩ (fun s' => typeIs_int s' k t) noFill_tuple_mul F.fills_int_mul F.slot_int_rmul repeat_tuple F.slot_int_index.lookup
      (call_meets F.slot_int_rmul (typeIs_int s k t) F.entry_int_rmul (F.args_int_rmul_2 _ _) (int_rmul_tuple k t l its.toArray n dd sl)
        ⟨ho, rfl, ⟨_, ho, rfl⟩, call_meets F.slot_tuple_mul ⟨_, ho, rfl⟩ F.entry_tuple_mul (F.args_tuple_mul_2 _ _) (tuple_mul1 l its.toArray n dd sl k t c0 c1) ⟨ho, ?_⟩⟩)
    refine ⟨.ref l, H, I, rfl, q l H (Ex.refl _) ?_⟩
    have e : (List.replicate k.toNat xs).flatten = xs := by rw [h3]; simp
    rw [e]
    exact hT
  · have c1 : (its.toArray.isEmpty || k == 1) = false := by
      rw [hi, Bool.false_or]
      exact beq_eq_false_iff_ne.mpr h3
    have c2 : (decide (k ≤ 0) || its.toArray.isEmpty) = true := by
      rw [decide_eq_true (by omega), Bool.true_or]
    refine wpAny_binaryOp_repeat_ref (T := "tuple") (U := "int") (by decide) ⟨_, ho, rfl⟩ (fun s' => typeIs_int s' k t) noFill_tuple_mul F.fills_int_mul F.slot_int_rmul repeat_tuple F.slot_int_index.lookup
      (call_meets F.slot_int_rmul (typeIs_int s k t) F.entry_int_rmul (F.args_int_rmul_2 _ _) (int_rmul_tuple k t l its.toArray n dd sl)
        ⟨ho, rfl, ⟨_, ho, rfl⟩, call_meets F.slot_tuple_mul ⟨_, ho, rfl⟩ F.entry_tuple_mul (F.args_tuple_mul_2 _ _) (tuple_mul0 l its.toArray n dd sl k t c0 c1 c2) ⟨ho, ?_⟩⟩)
    have hn2 := I.hok.fresh (Nat.le_refl s.heap.objs.size)
    have e : (List.replicate k.toNat xs).flatten = [] := by rw [show k.toNat = 0 by omega]; rfl
    refine ⟨.ref s.heap.objs.size, _, I.laid (t' := s.toks) (o := .tup []) (fun b ob q => Heap.get?_push_of_some _ q) (Nat.le_refl _) ?_, rfl, q _ _ (Ex.new hn2) (by rw [e]; exact st_of upd_same)⟩
    exact ⟨Nat.zero_le _, [], .nil, IsTup.new _ _⟩
end
end Pk
set_option Elab.async false
set_option linter.all false
set_option maxRecDepth 100000
set_option maxHeartbeats 4000000
namespace Pk
open PySem PySem.Spec PyProof.Rows L2 Evl
section
variable {pu : Option Addr} {K : PySem.W.Frag} {σ : L2.St} {H H' H1 H2 : Hp} {ta tb tc te tx tv : TE} {x y z v : V} {T U S T1 T2 : TP} {e e0 : TP}
theorem gv_rowW (h : Gv pu te σ H (Trow K)) : Gv pu (tOp (rIxT K) te (tC (.int 0))) σ H (Tq 12) := fun H1 m Q q => h H1 m _ fun v H2 m2 t => by
  obtain ⟨p, w, ps, rfl, h1, h2, h3, _⟩ := t
  exact ⟨p, _, 0, _, rfl, rfl, h1, L2.atI_nat (j := 0) rfl, q _ H2 m2 ⟨w, rfl, h2, h3⟩⟩
theorem gv_neO {a b c d : Int} (ha : Gv pu ta σ H (To (Ti a b))) (hb : Gv pu tb σ H (Ti c d)) : Gv pu (tOp rNe ta tb) σ H Tb :=
  gv_op (K := []) inferInstance ha hb fun x y H2 Q m t1 t2 q => by
    obtain ⟨j, rfl, _⟩ := t2
    rcases t1 with rfl | ⟨i, rfl, _⟩
    · exact ⟨rfl, q _ H2 m.r ⟨_, rfl⟩⟩
    · exact ⟨rfl, q _ H2 m.r ⟨_, rfl⟩⟩
theorem flat_o {a b : Int} (t : To (Ti a b) v H) : flatV v = true := by
  rcases t with rfl | ⟨i, rfl, _⟩
  · rfl
  · rfl
/-- texts counted -/
theorem gv_count {i n m : Nat} {z : Str} (hi : σ[i]? = some (some v)) (h : Tl pu (Tq m) 0 n v H) (hz : PySem.PyData.strOk z = true) : Gv pu (tBM K "list" (rCntS K) (tVar i) (tCons (tC (.str z)) tNil)) σ H (Ti 0 n) := fun H1 mo Q q => by
  obtain ⟨p, xs, rfl, np, h1, h2, h3, h4⟩ := (sb_Tl (K := K)).st _ _ _ h mo
  obtain ⟨ys, rfl, h5⟩ := strs_of h4
  rw [List.length_map] at h3
  exact ⟨_, hi, Or.inl ⟨rfl, _, sq_of h1⟩, p, ys, z, rfl, rfl, sq_of h1, fun y hy => (h5 y hy).2, hz, fun k hk => q _ H1 mo.r ⟨_, rfl, by omega, by omega⟩⟩
end
section
variable {P : Program} {w : World} {K : PySem.W.Frag} {mg : Str → Option Value} {base : Heap}
def sp_law_standing (K : PySem.W.Frag) : Sp := spP (fun _ => [Ti 3 11]) fun _ => Tt K (Trow K) 0 410
-- slots: 0 _law_purse_here, 1 _law_size, 2 _law_names_here, 3 _law_found, 4 _law_turn, 5 _law_more, 6 _law_words_here, 7 _law_own
theorem SC__law_standing : FnScope ["_law_purse_here", "_law_size", "_law_names_here", "_law_found", "_law_turn", "_law_more", "_law_words_here", "_law_own"] ["_law_purse_here", "_law_size"] (defScope (top 85)) := ⟨rfl, rfl, rfl, by decide +kernel, rfl, by decide +kernel, by decide +kernel⟩
theorem cl_law_standing (T : Txt w K mg) : Cl P w K mg base CX0 8 "_law_standing" (sp_law_standing K) := by
  obtain ⟨fd, F, hm⟩ := T.df 49 "_law_standing" 85 rfl
  refine cl0 F hm SC__law_standing (fun vs H Q E h => by obtain ⟨a, _, rfl, hp, ⟨_, _, rfl, ⟨n, rfl, n0, n1⟩, rfl⟩, k⟩ := h; rfl) (fun _ _ _ _ _ _ us hl => match us, hl with | [_, _], _ => rfl) fun cdv A outer s H vs Q E hr h => ?_
  obtain ⟨a, _, rfl, hp, ⟨_, _, rfl, ⟨n, rfl, n0, n1⟩, rfl⟩, k⟩ := h
  refine ⟨_, (pss_cons (ps_par (i := 2) (j := 3) rfl SC__law_standing.nd rfl rfl (by decide) rfl rfl (pa_cons (pc (cl_law_names T) hr (by decide) rfl (pa_cons (pv 0) (pa_cons pe_int pa_nil))) (pa_cons (pe_lst pa_nil) pa_nil)) (by rfl))
      (pss_cons (ps_for PassesOwn.never rfl (pi_range1 rfl T.f_range (pa_cons (pv 1) pa_nil)) (pg_name (i := 4) SC__law_standing.nd rfl (Or.inl rfl))
        (pss_cons (ps_set (i := 5) SC__law_standing.nd rfl (Or.inl rfl) (pc (cl_law_any_row T) hr (by decide) rfl (pa_cons (pv 0) (pa_cons (pv 2) pa_nil))))
        (pss_one (ps_if (pt_cmpR op_eq (pe_ix ix_tup (pv 5) pe_int (fun _ _ => rfl)) pe_str (nomark _)) (pss_one (ps_set (i := 3) SC__law_standing.nd rfl (Or.inl rfl) (pe_ifExp (pt_cmpR op_ne (pc (cl_law_stood T) hr (by decide) rfl (pa_cons (pe_callTy call_tuple_of rfl T.f_tuple boot_tuple (pa_cons (pe_op op_cat (pv 3) (pe_lst (pa_cons (pv 5) pa_nil))) pa_nil)) pa_nil)) (pe_callB call_len_seq rfl T.f_len boot_len (pa_cons (pv 3) pa_nil)) (nomark _)) (pe_op op_cat (pv 3) (pc (cl_law_table T) hr (by decide) rfl (pa_cons (pv 0) (pa_cons (pe_lst pa_nil) (pa_cons (pv 2) pa_nil))))) (pv 3)))) (pss_one (ps_if (pt_cmpR op_in_seq (pc (cl_law_stood T) hr (by decide) rfl (pa_cons (pe_callTy call_tuple_of rfl T.f_tuple boot_tuple (pa_cons (pe_op op_cat (pv 3) (pe_lst (pa_cons (pv 5) pa_nil))) pa_nil)) pa_nil)) (pe_tup (pa_cons pe_non (pa_cons (pe_op op_add (pe_callB call_len_seq rfl T.f_len boot_len (pa_cons (pv 3) pa_nil)) pe_int) pa_nil))) (by rfl)) (pss_one (ps_set (i := 3) SC__law_standing.nd rfl (Or.inl rfl) (pe_op op_cat (pv 3) (pe_lst (pa_cons (pv 5) pa_nil))))) pss_nil))))))
      (pss_cons (ps_setLc (i := 6) (own := [("_law_own", 7)]) (g := gName 7) (tt := tYes) rfl SC__law_standing.nd rfl rfl (sw_true rfl rfl rfl (by decide +kernel)) (pi_list (pv 3)) (blkOk_by (own := [("_law_own", 7)]) (N := ["_law_purse_here", "_law_size", "_law_names_here", "_law_found", "_law_turn", "_law_more", "_law_words_here", "_law_own"]) (sc := defScope (top 85)) (by decide +kernel)) (fun _ _ _ _ _ => (pg_name (i := 7) SC__law_standing.nd rfl (Or.inl rfl))) (fun _ _ _ _ _ => pts_nil) (fun _ _ _ _ _ => (pe_ix (show IxR _ (rIxT K) from ix_tup) (pv 7) pe_int (fun _ _ => rfl))))
      (pss_one (ps_ret (pe_op op_catA (pe_callTy call_tuple_of rfl T.f_tuple boot_tuple (pa_cons (pv 3) pa_nil)) (pe_op op_mult (pe_tup (pa_cons (pe_tup (pa_cons pe_str pa_nil)) pa_nil)) (pe_op op_sub (pe_bm PySem.F.plainAttrs_list PySem.F.slot_list_count PySem.F.type_list_count (mt_countS (hu65 hr)) (pv 6) (pa_cons pe_str pa_nil)) (pe_bm PySem.F.plainAttrs_list PySem.F.slot_list_count PySem.F.type_list_count (mt_countS (hu65 hr)) (pv 6) (pa_cons pe_str pa_nil)))))))))), ?_⟩
  have M := mo_refl hp
  refine y_par (T1 := Tl (some a) (Tq 7) 3 3) (T2 := Tl (some a) (Trow K) 0 0) M (gva_cons (K := K) inferInstance (gv_callP (es := fun _ => [Te (.int 3)]) (T := fun pu => Tl pu (Tq 7) 3 3) rfl (gva_cons (K := K) inferInstance (gv_c fun _ => rfl) gva_nil)) (gva_cons (K := K) inferInstance gv_nilL gva_nil)) fun vn vf H1 m1 tn tf => ?_
  refine q_rng (n := n) (ev_var rfl) (by omega) (by omega) (fun i σ' H' => Mo (some a) H1 H' ∧ ∃ vf o4 o5, Tl (some a) (Trow K) 0 (17 * i) vf H' ∧ σ' = [some (.ref a), some (.int n), some vn, some vf, o4, o5, none, none]) (fun H2 e2 => ⟨m1.r.ex e2, vf, _, _, (sb_Tl (K := K)).st _ _ _ tf (m1.r.ex e2), rfl⟩) (fun i σ' H2 hi q => ?_) (fun σ' H2 q => ?_)
  · obtain ⟨m2, vf, o4, o5, tf, rfl⟩ := q
    have tn2 := (sb_Tl (K := K)).st _ _ _ tn m2
    refine y_asg (T := Trow K) m2.r (gv_callP (es := fun pu => [Tl pu (Tq 7) 3 3]) (T := fun _ => Trow K) rfl (gva_cons (K := K) inferInstance (gv_v (K := K) rfl tn2) gva_nil)) fun vm H3 m3 tm => ?_
    have tf3 := (sb_Tl (K := K)).st _ _ _ tf m3
    have tn3 := (sb_Tl (K := K)).st _ _ _ tn2 m3
    have gst : ∀ {H4 : Hp}, Mo (some a) H3 H4 → Gv (some a) (tCall (sp_law_stood K) [] E0 (tCons (tCB (rTupOf K) (tCons (tOp rCat (tVar 3) (tLst (tCons (tVar 5) tNil))) tNil)) tNil)) [some (.ref a), some (.int n), some vn, some vf, some (.int i), some vm, none, none] H4 (To (Ti 0 300)) := fun {H4} m4 =>
      gv_callN (es := [Tt K (Trow K) 0 300]) (T := To (Ti 0 300)) (gva_cons (K := K) inferInstance (gv_tw (K := K) (gv_tupL (K := K) (e := Trow K) inferInstance (gv_cat (K := K) (e := Trow K) (c := 1) (d := 1) inferInstance (gv_v (K := K) rfl ((sb_Tl (K := K)).st _ _ _ tf3 m4)) (gv_lst (K := K) (e := Trow K) (n := 1) inferInstance (by decide) (gve_cons (K := K) inferInstance (gv_v (K := K) rfl (sv_Trow.st _ _ _ tm m4.ts)) gve_nil)) (by omega))) (by omega) (by omega) fun _ _ h => h) gva_nil)
    refine y_ifS m3.r (gt_test (gv_eqQ (gv_rowW (K := K) (gv_v (K := K) rfl tm)) (gv_q (n := 12) (by decide) (by decide +kernel)))) (fun H4 m4 _ => ?_) (fun H4 m4 _ => ?_)
    · have tf4 := (sb_Tl (K := K)).st _ _ _ tf3 m4
      have tn4 := (sb_Tl (K := K)).st _ _ _ tn3 m4
      refine s_asgT (T := Tl (some a) (Trow K) 0 (17 * i + 17)) m4.r (gv_if (gt_test (gv_neO (gst m4) (gv_lenL (gv_v (K := K) rfl tf4)))) (fun _ => gv_lw (gv_cat (K := K) (e := Trow K) (c := 1) (d := 17) inferInstance (gv_v (K := K) rfl tf4) (gv_callP (es := fun pu => [Tl pu (Tq 7) 0 1, Tl pu (Tq 7) 3 3]) (T := fun pu => Tl pu (Trow K) 1 17) rfl (gva_cons (K := K) inferInstance gv_nilq (gva_cons (K := K) inferInstance (gv_v (K := K) rfl tn4) gva_nil))) (by omega)) (by omega) (by omega) fun _ _ h => h) fun _ => gv_lw (gv_v (K := K) rfl tf4) (by omega) (by omega) fun _ _ h => h) fun v H5 m5 tv => ?_
      exact ⟨((m2.trans m3).trans m4).trans m5, v, _, _, tv, rfl⟩
    · have tf4 := (sb_Tl (K := K)).st _ _ _ tf3 m4
      refine y_whenS m4.r (gt_test (gv_inT (K := K) (T1 := To (Ti 0 300)) (e := To (Ti 0 1000)) inferInstance (gst m4) (gv_tupE (K := K) (n := 2) (e := To (Ti 0 1000)) inferInstance (by decide) (gve_cons (K := K) inferInstance (gv_c fun _ => .inl rfl) (gve_cons (K := K) inferInstance (gv_w (gv_add (gv_lenL (gv_v (K := K) rfl tf4)) gv_int) fun _ _ t => .inr (ti_w (by omega) (by omega) t)) gve_nil))) (fun _ _ => flat_o) fun _ _ => flat_o)) (fun H5 m5 _ => ?_) (fun H5 m5 _ => ?_)
      · have tf5 := (sb_Tl (K := K)).st _ _ _ tf4 m5
        refine s_asgT (T := Tl (some a) (Trow K) 0 (17 * i + 17)) m5.r (gv_lw (gv_cat (K := K) (e := Trow K) (c := 1) (d := 1) inferInstance (gv_v (K := K) rfl tf5) (gv_lst (K := K) (e := Trow K) (n := 1) inferInstance (by decide) (gve_cons (K := K) inferInstance (gv_v (K := K) rfl (sv_Trow.st _ _ _ tm (m4.trans m5).ts)) gve_nil)) (by omega)) (by omega) (by omega) fun _ _ h => h) fun v H6 m6 tv => ?_
        exact ⟨(((m2.trans m3).trans m4).trans m5).trans m6, v, _, _, tv, rfl⟩
      · obtain ⟨pp, zs, rfl, z1, z2, z3, z4, z5⟩ := (sb_Tl (K := K)).st _ _ _ tf4 m5
        exact ⟨((m2.trans m3).trans m4).trans m5, _, _, _, ⟨pp, zs, rfl, z1, z2, z3, by omega, z5⟩, rfl⟩
  · obtain ⟨m2, vf, o4, o5, tf, rfl⟩ := q
    have tf2 : Tl (some a) (Trow K) 0 187 vf H2 := by
      obtain ⟨pp, zs, rfl, z1, z2, z3, z4, z5⟩ := tf
      exact ⟨pp, zs, rfl, z1, z2, z3, by omega, z5⟩
    refine y_asg (T := Tl (some a) (Tq 12) 0 187) m2.r (gv_lcLst (K := K) (e0 := Trow K) (e := Tq 12) (lo := 0) (hi := 187) (gv_v (K := K) rfl tf2) (by decide) inferInstance inferInstance (fun x => rfl) fun x H3 m3 tx => gv_rowW (K := K) (gv_v (K := K) rfl tx)) fun vw H3 m3 tw => ?_
    have tf3 := (sb_Tl (K := K)).st _ _ _ tf2 m3
    refine y_ret (T := Tt K (Trow K) 0 410) m3.r (gv_tw (K := K) (gv_catA (K := K) (e := Trow K) (c := 0) (d := 187) inferInstance (gv_tupL (K := K) (e := Trow K) inferInstance (gv_v (K := K) rfl tf3)) ?_ (by decide)) (by decide) (by decide) fun _ _ h => h) fun v H4 m4 t => k v H4 ((m1.trans m2).trans (m3.trans m4)) t
    refine gv_op (K := K) (T1 := Tt K (Trow K) 1 1) (T2 := Ti (-187) 187) inferInstance (gv_tupE (K := K) (n := 1) (e := Trow K) inferInstance (by decide) (gve_cons (K := K) inferInstance (gv_row (K := K) "done" [] (by decide +kernel) (Nat.le_of_ble_eq_true rfl) gva_nil) gve_nil)) (gv_iw (gv_sub (gv_count (K := K) rfl tw (by decide +kernel)) (gv_count (K := K) rfl tw (by decide +kernel))) (by decide) (by decide)) fun x y H4 Q m4 t1 t2 q => ?_
    obtain ⟨l, xs, rfl, h1, h2, h3, h4⟩ := t1
    obtain ⟨j, rfl, j0, j1⟩ := t2
    refine ⟨l, j, xs, rfl, rfl, h1, fun e => by rw [e, List.length_nil] at h2; omega, by omega, by omega, by omega, fun p H5 e5 h5 => q _ H5 (m4.r.ex e5) ⟨p, _, rfl, h5, Nat.zero_le _, ?_, fun z hz => ?_⟩⟩
    · rw [PyProof.Rows.lm_len_rep_flat]
      have : xs.length = 1 := by omega
      rw [this]
      omega
    · obtain ⟨ys, hy, hz2⟩ := List.mem_flatten.mp hz
      rw [List.eq_of_mem_replicate hy] at hz2
      exact sv_Trow.st _ _ _ (h4 z hz2) (m4.r.ex e5).ts
end
end Pk
set_option Elab.async false
set_option linter.all false
set_option maxRecDepth 100000
set_option maxHeartbeats 4000000
namespace Pk
open PySem PySem.Spec PyProof.Rows L2 Evl
/-- lists of texts, one list of them -/
def WordsAt (H : Hp) (kws : List (List Str)) (p : Addr) : Prop := ∃ as : List Addr, H p = some (.lst (as.map .ref)) ∧ Paired (fun (ws : List Str) a => a ≠ p ∧ H a = some (.lst (ws.map .str))) kws as
section
variable {P : Program} {w : World} {K : PySem.W.Frag} {mg : Str → Option Value} {base : Heap}
theorem WordsAt.ex {H H' : Hp} {kws : List (List Str)} {p : Addr} (h : WordsAt H kws p) (e : Ex H H') : WordsAt H' kws p := by
  obtain ⟨as, h1, h2⟩ := h
  exact ⟨as, e _ _ h1, Paired.mono (fun _ _ h => ⟨h.1, e _ _ h.2⟩) h2⟩
def dwords (kws : List (List Str)) : PyData := .list (kws.map fun ws => .list (ws.map PyData.str))
theorem dp_words0 {H : Hp} {p : Addr} : ∀ {kws : List (List Str)} {as : List Addr}, Paired (fun (ws : List Str) a => a ≠ p ∧ H a = some (.lst (ws.map .str))) kws as → DpAll K H (as.map .ref) (kws.map fun ws => .list (ws.map PyData.str))
  | _, _, .nil => .nil
  | _, _, .cons h t => .cons (.lst (sq_of h.2) (strs_dp _)) (dp_words0 t)
theorem WordsAt.dp {H : Hp} {kws : List (List Str)} {p : Addr} (h : WordsAt H kws p) : Dp K H (.ref p) (dwords kws) := by
  obtain ⟨as, h1, h2⟩ := h
  exact .lst (sq_of h1) (dp_words0 h2)
theorem lay_strs : ∀ {ws : List Str}, (∀ x ∈ ws, PySem.PyData.strOk x = true) → PyData.canLayAll0 (ws.map PyData.str) = true
  | [], _ => rfl
  | x :: r, h => by
    have h1 := lay_strs (ws := r) fun y hy => h y (List.mem_cons_of_mem _ hy)
    have h2 := h x List.mem_cons_self
    simp [PyData.canLayAll0, PyData.canLay0, h1, h2]
theorem sh_strsL {ws : List Str} (h : ∀ x ∈ ws, PySem.PyData.strOk x = true) : SeqAt.shaped (.list (ws.map PyData.str)) = true := shp (n := 1) (by simp only [PyData.canLay0]; exact lay_strs h) (by simp only [PyData.depth, depth_strs]; omega) (by omega)
theorem sh_words0 : ∀ {kws : List (List Str)}, (∀ ws ∈ kws, ∀ x ∈ ws, PySem.PyData.strOk x = true) → PyData.canLayAll0 (kws.map fun ws => .list (ws.map PyData.str)) = true ∧ PyData.depthAll (kws.map fun ws => .list (ws.map PyData.str)) ≤ 1
  | [], _ => ⟨rfl, by simp [PyData.depthAll]⟩
  | ws :: r, h => by
    obtain ⟨h1, h2⟩ := sh_words0 (kws := r) fun y hy => h y (List.mem_cons_of_mem _ hy)
    have h3 := lay_strs (h ws List.mem_cons_self)
    refine ⟨by simp [PyData.canLayAll0, PyData.canLay0, h1, h3], ?_⟩
    simp only [List.map_cons, PyData.depthAll, PyData.depth, depth_strs]
    omega
theorem sh_words {kws : List (List Str)} (h : ∀ ws ∈ kws, ∀ x ∈ ws, PySem.PyData.strOk x = true) : SeqAt.shaped (dwords kws) = true := by
  obtain ⟨h1, h2⟩ := sh_words0 h
  exact shp (n := 2) (by unfold dwords; simp only [PyData.canLay0]; exact h1) (by unfold dwords; simp only [PyData.depth]; omega) (by omega)
theorem eqv_strsL : ∀ a b : List Str, PyData.eqvAll (a.map PyData.str) (b.map PyData.str) = decide (a = b)
  | [], [] => by simp [PyData.eqvAll]
  | [], _ :: _ => by simp [PyData.eqvAll]
  | _ :: _, [] => by simp [PyData.eqvAll]
  | x :: xs, y :: ys => by
    simp only [List.map_cons, PyData.eqvAll, eqv_strsL xs ys]
    by_cases h : x = y
    · subst h; simp [PyData.eqv]
    · have h2 : PyData.eqv (.str x) (.str y) = false := by simp [PyData.eqv, h]
      simp [h2, h]
theorem eqv_words0 : ∀ a b : List (List Str), PyData.eqvAll (a.map fun ws => .list (ws.map PyData.str)) (b.map fun ws => .list (ws.map PyData.str)) = decide (a = b)
  | [], [] => by simp [PyData.eqvAll]
  | [], _ :: _ => by simp [PyData.eqvAll]
  | _ :: _, [] => by simp [PyData.eqvAll]
  | x :: xs, y :: ys => by
    have e : PyData.eqv (.list (x.map PyData.str)) (.list (y.map PyData.str)) = decide (x = y) := by
      show PyData.eqvAll _ _ = _
      exact eqv_strsL x y
    simp only [List.map_cons, PyData.eqvAll, eqv_words0 xs ys, e]
    by_cases h : x = y
    · subst h; simp
    · simp [h]
theorem eqv_words (a b : List (List Str)) : PyData.eqv (dwords a) (dwords b) = decide (a = b) := eqv_words0 a b
theorem ok_words {z x : Str} (h : PySem.PyData.strOk z = true) (hx : x ∈ wordsIn z) : PySem.PyData.strOk x = true := ok_iff.mpr fun c hc => ok_iff.mp h c (words_in hx hc)
theorem ok_kept {z : Str} (h : Gd z) : ∀ ws ∈ kept z, ∀ x ∈ ws, PySem.PyData.strOk x = true := fun ws hw x hx => by
  unfold kept at hw
  obtain ⟨h1, _⟩ := List.mem_filter.mp hw
  obtain ⟨l, hl, rfl⟩ := List.mem_map.mp h1
  exact ok_words (split_gd h hl).2 hx
theorem len0 {z : Str} : z.length = 0 ↔ z = "" := ⟨fun h => str_nil.mpr h, fun h => by rw [h]; rfl⟩
theorem kept_take {z : Str} {i : Nat} {x : Str} (h : (Txt.split z lf)[i]? = some x) : (((Txt.split z lf).take (i + 1)).map wordsIn).filter keep = (((Txt.split z lf).take i).map wordsIn).filter keep ++ if keep (wordsIn x) = true then [wordsIn x] else [] := by
  rw [List.take_succ, h, List.map_append, List.filter_append]
  congr 1
  show ([wordsIn x]).filter keep = _
  cases hk : keep (wordsIn x) with
  | true => rw [List.filter_cons_of_pos hk]; rfl
  | false => rw [List.filter_cons_of_neg (by rw [hk]; exact Bool.false_ne_true)]; rfl
def sp_law_words_of (K : PySem.W.Frag) : Sp := fun vs H Q _ => ∃ z : Str, vs = [.str z] ∧ Gd z ∧ ∀ p H', Ex H H' → WordsAt H' (kept z) p → Q (.ref p) H'
-- slots: 0 _law_verse, 1 _law_found, 2 _law_line_here, 3 _law_some, 4 _law_part
theorem SC__law_words_of : FnScope ["_law_verse", "_law_found", "_law_line_here", "_law_some", "_law_part"] ["_law_verse"] (defScope (top 86)) := ⟨rfl, rfl, rfl, by decide +kernel, rfl, by decide +kernel, by decide +kernel⟩
theorem cl_law_words_of (T : Txt w K mg) : Cl P w K mg base CX0 1 "_law_words_of" (sp_law_words_of K) := by
  obtain ⟨fd, F, hm⟩ := T.df 50 "_law_words_of" 86 rfl
  refine cl0 F hm SC__law_words_of (fun vs H Q E h => by obtain ⟨z, rfl, hg, k⟩ := h; rfl) (fun _ _ _ _ _ _ us hl => match us, hl with | [_], _ => rfl) fun cdv A outer s H vs Q E hr h => ?_
  obtain ⟨z, rfl, hg, k⟩ := h
  refine ⟨_, (pss_cons (ps_set (i := 1) SC__law_words_of.nd rfl (Or.inl rfl) (pe_lst pa_nil))
      (pss_cons (ps_for PassesOwn.never rfl (pi_list (pe_split (pv 0) pe_str)) (pg_name (i := 2) SC__law_words_of.nd rfl (Or.inl rfl))
        (pss_cons (ps_setLc (i := 3) (own := [("_law_part", 4)]) (g := gName 4) rfl SC__law_words_of.nd rfl rfl (sw_true rfl rfl rfl (by decide +kernel)) (pi_list (pe_split (pv 2) pe_str)) (blkOk_by (own := [("_law_part", 4)]) (N := ["_law_verse", "_law_found", "_law_line_here", "_law_some", "_law_part"]) (sc := defScope (top 86)) (by decide +kernel)) (fun _ _ _ _ _ => (pg_name (i := 4) SC__law_words_of.nd rfl (Or.inl rfl))) (fun _ _ _ _ _ => pts_one (pt_cmpR op_ne (pv 4) pe_str (nomark _))) (fun _ _ _ _ _ => (pv 4)))
        (pss_one (ps_if (PW.pt (pw_and (pt_cmpR (op_neD hr.units) (pv 3) (pe_lst pa_nil) (nomark _)) (pw_and1 (pt_cmpR op_ne (pe_ix ix_list (pv 3) pe_int (fun _ _ => rfl)) pe_str (nomark _))))) (pss_one (ps_expr (pe_bm PySem.F.plainAttrs_list PySem.F.slot_list_append PySem.F.type_list_append mt_append (pv 1) (pa_cons (pv 3) pa_nil)))) pss_nil))))
      (pss_one (ps_ret (pv 1))))), ?_⟩
  refine q_asgL (Evl.el_lst ea_nil (Nat.zero_le _)) fun pf H1 hpf e1 g1 => ?_
  refine q_forE (el_split (ev_var rfl) ev_c (by decide) hg.1 H1 (Ex.refl _) _ fun pl H2 hpl e2 g2 => ?_)
  have hlen : (Txt.split z lf).length ≤ 1000001 := by
    have h1 := wt_len (Txt.split z lf)
    have h2 : wt (Txt.split z lf) = z.length + 1 := wt_split z 10
    have := hg.1
    omega
  have hne : pl ≠ pf := fun e => by rw [e, g1] at hpl; cases hpl
  refine q_forW walk_list (hwi_list ev_c (sq_of g2)) (fun i σ' H' => Ex H H' ∧ H' pl = some (.lst ((Txt.split z lf).map V.str)) ∧ (∃ as : List Addr, as.length ≤ i ∧ H' pf = some (.lst (as.map .ref)) ∧ Paired (fun (ws : List Str) a => a ≠ pf ∧ H' a = some (.lst (ws.map .str))) ((((Txt.split z lf).take i).map wordsIn).filter keep) as) ∧ ∃ o2 o3, σ' = [some (.str z), some (.ref pf), o2, o3, none])
    (fun H3 e3 => ⟨(e1.trans e2).trans e3, e3 _ _ g2, ⟨[], Nat.le_refl _, (e2.trans e3) _ _ g1, .nil⟩, _, _, rfl⟩) (fun i σ' H' _ q => sq_of q.2.1) (fun i x σ' H3 H4 hi q y => ?_) (fun σ' H3 q => ?_)
  · obtain ⟨e3, g3, ⟨as, al, f3, p3⟩, o2, o3, rfl⟩ := q
    obtain ⟨rfl, y⟩ := y
    rw [List.getElem?_map] at y
    obtain ⟨l, hl, rfl⟩ := Option.map_eq_some_iff.mp y
    have hlg : Gd l := split_gd hg (List.mem_of_getElem? hl)
    have hi2 : i < (Txt.split z lf).length := (List.getElem?_eq_some_iff.mp hl).1
    have eb : (" " : Str) = bl := by decide +kernel
    refine q_asgL (el_is (el_lcN (b := fun v => !decide (v = .str "")) (q := fun v => v) (el_split (ev_var rfl) ev_c (by decide) hlg.1) (by
      rw [List.length_map, eb]
      have h1 := wt_len (Txt.split l bl)
      have h2 : wt (Txt.split l bl) = l.length + 1 := wt_split l 32
      have := hlg.1
      exact Nat.le_trans (show _ ≤ 1000001 by omega) (by decide)) (fun _ => rfl) (fun x H0 hx e0 => ?_) (fun x H0 hx e0 _ => ev_var rfl)) (ys := (wordsIn l).map V.str) ?_) fun ps H5 hps e5 g5 => ?_
    · obtain ⟨c, _, rfl⟩ := List.mem_map.mp hx
      exact et_test (ev_op (ev_var rfl) ev_c (rv_ne rfl))
    · unfold wordsIn
      rw [eb]
      generalize Txt.split l bl = L
      induction L with
      | nil => rfl
      | cons a L ih =>
        rw [List.map_cons, List.filter_cons, List.filter_cons]
        by_cases h : a = ""
        · subst h
          have h1 : (Str.ofString "").length = 0 := by decide
          simp only [h1, decide_true, Bool.not_true, Bool.false_eq_true, if_false]
          simpa using ih
        · have h1 : ¬ a.length = 0 := fun e => h (len0.mp e)
          simp only [V.str.injEq, h, h1, decide_false, Bool.not_false, if_true, List.map_cons]
          rw [← ih]
    · have hpsf : ps ≠ pf := fun e => by rw [e, f3] at hps; cases hps
      have hok : ∀ x ∈ wordsIn l, PySem.PyData.strOk x = true := fun x hx => ok_words hlg.2 hx
      have ktk := kept_take hl
      have keepS : ∀ {H6 : Hp}, Ex H5 H6 → keep (wordsIn l) = false → (Ex H H6 ∧ H6 pl = some (.lst ((Txt.split z lf).map V.str)) ∧ (∃ as : List Addr, as.length ≤ i + 1 ∧ H6 pf = some (.lst (as.map .ref)) ∧ Paired (fun (ws : List Str) a => a ≠ pf ∧ H6 a = some (.lst (ws.map .str))) ((((Txt.split z lf).take (i + 1)).map wordsIn).filter keep) as)) := fun {H6} e6 hk => by
        rw [ktk, hk, if_neg Bool.false_ne_true, List.append_nil]
        exact ⟨(e3.trans e5).trans e6, (e5.trans e6) _ _ g3, as, by omega, (e5.trans e6) _ _ f3, Paired.mono (fun _ _ h => ⟨h.1, (e5.trans e6) _ _ h.2⟩) p3⟩
      have dps : Dp K H5 (.ref ps) (.list ((wordsIn l).map PyData.str)) := .lst (sq_of g5) (strs_dp _)
      cases hw : wordsIn l with
      | nil =>
        rw [hw] at dps hok
        refine s_when (b := false) (et_and0 (et_test (ev_is (ev_ne0L (ev_var rfl) dps (sh_strsL hok)) rfl))) (fun h => by cases h) fun _ H6 e6 => ?_
        obtain ⟨r1, r2, r3⟩ := keepS e6 (by rw [hw]; rfl)
        exact ⟨r1, r2, r3, _, _, rfl⟩
      | cons wd r =>
        rw [hw] at dps hok g5
        refine s_when (et_and (a := true) (et_test (ev_is (ev_ne0L (ev_var rfl) dps (sh_strsL hok)) rfl)) fun _ => et_test (ev_op (ev_op (ev_var rfl) ev_c (rv_ixL (sq_of g5) (L2.atI_nat (j := 0) rfl))) ev_c (rv_ne rfl))) (fun hk H6 e6 => ?_) fun hk H6 e6 => ?_
        · have hkp : keep (wordsIn l) = true := by
            rw [hw]
            rw [Bool.true_and, Bool.not_eq_true', decide_eq_false_iff_not] at hk
            show (!decide (wd = dots)) = true
            rw [decide_eq_false fun e => hk (by rw [e])]
            rfl
          have f6 := (e5.trans e6) _ _ f3
          refine s_appV f6 (ev_var rfl) (ev_var rfl) (by rw [List.length_map]; exact Nat.lt_of_le_of_lt (show as.length ≤ 1000001 by omega) (by decide)) fun H7 e7 => ?_
          have f7 := e7 _ _ f6
          have e47 := (e5.trans e6).trans e7
          have up : ∀ {b : Addr} {o : HO}, b ≠ pf → H7 b = some o → upd H7 pf (.lst (as.map V.ref ++ [.ref ps])) b = some o := fun {b o} hb h => by rw [upd_ne hb]; exact h
          refine ⟨(e3.trans e47).mut (fresh_back (Ex.refl _) hpf), up hne (e47 _ _ g3), ⟨as ++ [ps], by rw [List.length_append]; exact Nat.succ_le_succ al, by rw [upd_same, List.map_append]; rfl, ?_⟩, _, _, rfl⟩
          rw [ktk, hkp, if_pos rfl]
          exact Paired.snoc (Paired.mono (fun _ _ h => ⟨h.1, up h.1 (e47 _ _ h.2)⟩) p3) ⟨hpsf, up hpsf (by rw [hw]; exact (e6.trans e7) _ _ g5)⟩
        · have hkp : keep (wordsIn l) = false := by
            rw [hw]
            rw [Bool.true_and, Bool.not_eq_false', decide_eq_true_iff] at hk
            show (!decide (wd = dots)) = false
            rw [decide_eq_true (V.str.inj hk)]
            rfl
          obtain ⟨r1, r2, r3⟩ := keepS e6 hkp
          exact ⟨r1, r2, r3, _, _, rfl⟩
  · obtain ⟨e3, g3, ⟨as, al, f3, p3⟩, o2, o3, rfl⟩ := q
    rw [List.length_map, List.take_length] at p3
    exact s_ret (ev_var rfl) fun H4 e4 => k pf H4 (e3.trans e4) (WordsAt.ex ⟨as, f3, p3⟩ e4)
end
end Pk
set_option Elab.async false
set_option linter.all false
set_option maxRecDepth 100000
set_option maxHeartbeats 4000000
namespace Pk
open PySem PySem.Spec PyProof.Rows L2 Evl
section
variable {pu : Option Addr} {K : PySem.W.Frag} {σ : L2.St} {H H' H1 H2 : Hp} {ta tb tc te tx tv : TE} {x y z v : V} {T U S T1 T2 : TP} {e e0 : TP}
theorem blanks {k : Int} (h0 : 0 ≤ k) (h1 : k ≤ 3) : (Txt.mul " " k).length ≤ k.toNat ∧ PySem.PyData.strOk (Txt.mul " " k) = true := by
  have : k = 0 ∨ k = 1 ∨ k = 2 ∨ k = 3 := by omega
  rcases this with e | e | e | e <;> subst e <;> decide +kernel
theorem gv_blanks {a b : Int} (h : Gv pu te σ H (Ti a b)) (h0 : 0 ≤ a) (h1 : b ≤ 3) : Gv pu (tOp rMulS (tC (.str " ")) te) σ H (Tq b.toNat) := fun H1 m Q q => h H1 m _ fun v H2 m2 t => by
  obtain ⟨k, rfl, k0, k1⟩ := t
  obtain ⟨e1, e2⟩ := blanks (k := k) (by omega) (by omega)
  exact ⟨" ", k, rfl, rfl, by decide, by omega, by omega, q _ H2 m2 ⟨_, rfl, by omega, e2⟩⟩
theorem gv_joinX {i : Nat} {l : Str} (ha : Gv pu ta σ H (Tq 3)) (hl : σ[i]? = some (some (.str l))) (hg : Gd l) :
    Gv pu (tM1 (fun x xs H Q => ∃ a p, ∃ ys : List Str, x = .str a ∧ xs = [.ref p] ∧ (SqL K H p (ys.map V.str) ∨ SqT K H p (ys.map V.str)) ∧ (ys.map (·.length)).sum + ys.length * a.length ≤ 16777216 ∧ Q (.str (Txt.join a ys)) H) ta (tM1 (fun x xs H Q => ∃ a b, x = .str a ∧ xs = [.str b] ∧ (b.length == 0) = false ∧ a.length + 2 ≤ sizeLine ∧ rNewStrs (Txt.split a b) H Q) (tVar i) (tC (.str " ")))) σ H (Tq (3 * l.length + 3)) := fun H1 m Q q => ha H1 m _ fun v H2 m2 t => by
  obtain ⟨sep, rfl, s1, s2⟩ := t
  refine ⟨⟨sep, rfl⟩, el_split (ev_var hl) ev_c (by decide) hg.1 H2 (Ex.refl _) _ fun p H3 hp e3 h3 => ?_⟩
  have eb : (" " : Str) = bl := by decide +kernel
  rw [eb] at h3
  have h4 : wt (Txt.split l bl) = l.length + 1 := wt_split l 32
  rw [wt_sum] at h4
  have h5 : (Txt.split l bl).length * sep.length ≤ (Txt.split l bl).length * 3 := Nat.mul_le_mul_left _ s1
  have h6 := hg.1
  refine ⟨sep, p, Txt.split l bl, rfl, rfl, .inl (sq_of h3), by omega, q _ H3 (m2.trans ((m.trans m2).ex e3)) ⟨_, rfl, join_three s1 l, ok_join s2 fun x hx => ok_iff.mpr fun c hc => ok_iff.mp hg.2 c ?_⟩⟩
  have h7 := join_mem bl (Txt.split l bl) x c hx hc
  have h8 : Str.join bl (Txt.split l bl) = l := StrLaws.join_split l bl
  rw [h8] at h7
  exact h7
end
section
variable {P : Program} {w : World} {K : PySem.W.Frag} {mg : Str → Option Value} {base : Heap}
def sp_law_loosely (K : PySem.W.Frag) : Sp := fun vs H Q _ => ∃ (a : Addr) (z : Str), vs = [.ref a, .str z] ∧ PuL a H ∧ Gd z ∧ z.length ≤ 50000 ∧ ∀ y H', Mo (some a) H H' → y.length ≤ 19 * (z.length + 1) → PySem.PyData.strOk y = true → Q (.str y) H'
-- slots: 0 _law_purse_here, 1 _law_verse, 2 _law_found, 3 _law_line_here
theorem SC__law_loosely : FnScope ["_law_purse_here", "_law_verse", "_law_found", "_law_line_here"] ["_law_purse_here", "_law_verse"] (defScope (top 87)) := ⟨rfl, rfl, rfl, by decide +kernel, rfl, by decide +kernel, by decide +kernel⟩
theorem cl_law_loosely (T : Txt w K mg) : Cl P w K mg base CX0 2 "_law_loosely" (sp_law_loosely K) := by
  obtain ⟨fd, F, hm⟩ := T.df 51 "_law_loosely" 87 rfl
  refine cl0 F hm SC__law_loosely (fun vs H Q E h => by obtain ⟨a, z, rfl, hp, hg, hz, k⟩ := h; rfl) (fun _ _ _ _ _ _ us hl => match us, hl with | [_, _], _ => rfl) fun cdv A outer s H vs Q E hr h => ?_
  obtain ⟨a, z, rfl, hp, hg, hz, k⟩ := h
  refine ⟨_, (pss_cons (ps_set (i := 2) SC__law_loosely.nd rfl (Or.inl rfl) (pe_lst pa_nil))
      (pss_cons (ps_for PassesOwn.never rfl (pi_list (pe_split (pv 1) pe_str)) (pg_name (i := 3) SC__law_loosely.nd rfl (Or.inl rfl))
        (pss_cons (ps_expr (pe_bm PySem.F.plainAttrs_list PySem.F.slot_list_append PySem.F.type_list_append mt_append (pv 2) (pa_cons (pe_op op_add_str (pe_op op_muls pe_str (pc (cl_law_pick T) hr (by decide) rfl (pa_cons (pv 0) (pa_cons pe_int pa_nil)))) (pe_join (pe_op op_muls pe_str (pe_op op_add pe_int (pc (cl_law_pick T) hr (by decide) rfl (pa_cons (pv 0) (pa_cons pe_int pa_nil))))) (pe_split (pv 3) pe_str))) pa_nil)))
        (pss_one (ps_if (pt_cmpR op_eq (pc (cl_law_pick T) hr (by decide) rfl (pa_cons (pv 0) (pa_cons pe_int pa_nil))) pe_int (nomark _)) (pss_one (ps_expr (pe_bm PySem.F.plainAttrs_list PySem.F.slot_list_append PySem.F.type_list_append mt_append (pv 2) (pa_cons (pe_ix ix_list (pe_lst (pa_cons pe_str (pa_cons pe_str (pa_cons pe_str (pa_cons pe_str pa_nil))))) (pc (cl_law_pick T) hr (by decide) rfl (pa_cons (pv 0) (pa_cons pe_int pa_nil))) (fun _ _ => rfl)) pa_nil)))) pss_nil))))
      (pss_one (ps_ret (pe_join pe_str (pv 2)))))), ?_⟩
  have M := mo_refl hp
  refine y_asgN M (gn_lst (K := K) (e := Tq 0) inferInstance (by decide) gve_nil) fun pf H1 xs hpf m1 g1 x0 x1 hx => ?_
  have exs : xs = [] := List.eq_nil_of_length_eq_zero (Nat.le_zero.mp x1)
  subst exs
  have haf : some a ≠ some pf := ne_fr m1 hpf
  refine q_forE (el_split (ev_var rfl) ev_c (by decide) hg.1 H1 (Ex.refl _) _ fun pl H2 hpl e2 g2 => ?_)
  have m2 := m1.trans (m1.ex e2)
  have hal : some a ≠ some pl := ne_fresh m1 hpl
  have hne : pl ≠ pf := fun e => by rw [e, g1] at hpl; cases hpl
  have hlw : wt (Txt.split z lf) = z.length + 1 := wt_split z 10
  refine q_forW walk_list (hwi_list ev_c (sq_of g2)) (fun i σ' H' => Mo (some a) H H' ∧ H' pl = some (.lst ((Txt.split z lf).map V.str)) ∧ (∃ ys : List Str, H' pf = some (.lst (ys.map .str)) ∧ wt ys ≤ 19 * wt ((Txt.split z lf).take i) ∧ ∀ y ∈ ys, PySem.PyData.strOk y = true) ∧ ∃ o3, σ' = [some (.ref a), some (.str z), some (.ref pf), o3])
    (fun H3 e3 => ⟨m2.trans (m2.ex e3), e3 _ _ g2, ⟨[], (e2.trans e3) _ _ g1, Nat.zero_le _, fun y hy => by cases hy⟩, _, rfl⟩) (fun i σ' H' _ q => sq_of q.2.1) (fun i x σ' H3 H4 hi q y => ?_) (fun σ' H3 q => ?_)
  · obtain ⟨m3, g3, ⟨ys, f3, w3, ok3⟩, o3, rfl⟩ := q
    obtain ⟨rfl, y⟩ := y
    rw [List.getElem?_map] at y
    obtain ⟨l, hl, rfl⟩ := Option.map_eq_some_iff.mp y
    have hlg : Gd l := split_gd hg (List.mem_of_getElem? hl)
    have hll : l.length + 1 ≤ z.length + 1 := by rw [← hlw]; exact wt_mem (List.mem_of_getElem? hl)
    have wts := wt_take_succ hl
    have wle := wt_take_le (Txt.split z lf) (i + 1)
    have ylen := wt_len ys
    show tSeq _ _ _ _ _
    refine q_app (T := Tq (2 + (3 * l.length + 3))) m3.r (gv_adds (gv_blanks (a := 0) (b := 2) (gv_pickC (K := K) rfl (by decide) (by decide)) (by decide) (by decide)) (gv_joinX (K := K) (gv_blanks (a := 1) (b := 3) (gv_iw (gv_add gv_int (gv_pickC (K := K) rfl (by decide) (by decide))) (by decide) (by decide)) (by decide) (by decide)) rfl hlg) (by omega)) rfl f3 haf (by rw [List.length_map]; omega) fun v H5 m5 t5 f5 => ?_
    obtain ⟨y1, rfl, l1, ok1⟩ := t5
    have m5' : Mo (some a) H (upd H5 pf (.lst (ys.map V.str ++ [.str y1]))) := mo_upd (m3.trans m5) hpf
    have g5 : (upd H5 pf (.lst (ys.map V.str ++ [.str y1]))) pl = some (.lst ((Txt.split z lf).map V.str)) := by rw [upd_ne hne]; exact m5.ox _ _ hal g3
    have f5' : (upd H5 pf (.lst (ys.map V.str ++ [.str y1]))) pf = some (.lst ((ys ++ [y1]).map V.str)) := by rw [upd_same, List.map_append]; rfl
    have w5 : wt (ys ++ [y1]) ≤ 19 * wt ((Txt.split z lf).take i) + (3 * l.length + 6) := by rw [wt_app, wt_one]; omega
    have ok5 : ∀ y ∈ ys ++ [y1], PySem.PyData.strOk y = true := fun y hy => (List.mem_append.mp hy).elim (ok3 y) fun h => by rw [List.mem_singleton.mp h]; exact ok1
    have ylen5 := wt_len (ys ++ [y1])
    generalize upd H5 pf (.lst (ys.map V.str ++ [.str y1])) = H6 at m5' g5 f5' ⊢
    refine y_whenS m5'.r (gt_test (gv_eqI (gv_pickC (K := K) rfl (by decide) (by decide)) gv_int)) (fun H7 m7 _ => ?_) (fun H7 m7 _ => ?_)
    · refine y_app (T := Tq 12) (m5'.trans m7).r (gv_ixL (K := K) inferInstance (gv_strs (n := 4) [" ", ".. table 9 x", "..", ""] (m := 12) (by decide +kernel) rfl (by decide)) (gv_pickC (K := K) rfl (by decide) (by decide)) (by decide)) rfl (m7.ox _ _ haf f5') haf (by rw [List.length_map]; omega) fun v H8 m8 t8 f8 => ?_
      obtain ⟨y2, rfl, l2, ok2⟩ := t8
      refine ⟨mo_upd ((m5'.trans m7).trans m8) hpf, by rw [upd_ne hne]; exact (m7.trans m8).ox _ _ hal g5, ⟨ys ++ [y1] ++ [y2], by rw [upd_same]; simp only [List.map_append, List.map_cons, List.map_nil], ?_, fun y hy => (List.mem_append.mp hy).elim (ok5 y) fun h => by rw [List.mem_singleton.mp h]; exact ok2⟩, _, rfl⟩
      rw [wt_app, wt_one, wts]
      omega
    · exact ⟨m5'.trans m7, m7.ox _ _ hal g5, ⟨ys ++ [y1], m7.ox _ _ haf f5', by rw [wts]; omega, ok5⟩, _, rfl⟩
  · obtain ⟨m3, g3, ⟨ys, f3, w3, ok3⟩, o3, rfl⟩ := q
    rw [List.length_map, List.take_length, hlw] at w3
    have el : ("\n" : Str) = lf := by decide +kernel
    have hj : (Txt.join lf ys).length ≤ wt ys := join_le 10 ys
    have ws := wt_sum ys
    have hl1 : (lf : Str).length = 1 := by decide
    rw [← el] at hj hl1
    refine ⟨⟨_, rfl⟩, _, rfl, _, pf, ys, rfl, rfl, .inl (sq_of f3), by rw [hl1]; omega, k _ H3 m3 (by omega) (ok_join (by decide +kernel) ok3)⟩
end
end Pk
set_option Elab.async false
set_option linter.all false
set_option maxRecDepth 100000
set_option maxHeartbeats 4000000
namespace Pk
open PySem PySem.Spec PyProof.Rows L2 Evl
theorem cut_lo (l : List Str) (j : Nat) : cutV (l.map V.str) none (some (j : Int)) = (l.take j).map V.str := by
  unfold cutV
  rw [HT.sIx_nat, List.length_map]
  have e : HT.sIx l.length 0 none = 0 := rfl
  rw [e, List.drop_zero, Nat.sub_zero, List.map_take, List.take_eq_take_iff, List.length_map]
  omega
theorem cut_hi (l : List Str) (j : Nat) : cutV (l.map V.str) (some (j : Int)) none = (l.drop j).map V.str := by
  unfold cutV
  rw [HT.sIx_nat, List.length_map]
  have e : HT.sIx l.length l.length none = l.length := rfl
  rw [e, List.map_drop, List.take_of_length_le (by rw [List.length_drop, List.length_map]; omega)]
  by_cases h : j ≤ l.length
  · rw [Nat.min_eq_left h]
  · rw [List.drop_eq_nil_of_le (by rw [List.length_map]; omega), List.drop_eq_nil_of_le (by rw [List.length_map]; omega)]
theorem cut_midV (l : List Str) (i j : Nat) (hi : i ≤ l.length) (h : i ≤ j) : cutV (l.map V.str) (some (i : Int)) (some (j : Int)) = ((l.take j).drop i).map V.str := by
  unfold cutV
  rw [HT.sIx_nat, HT.sIx_nat, List.length_map, Nat.min_eq_left hi, List.map_drop, List.map_take, List.drop_take, List.take_eq_take_iff, List.length_drop, List.length_map]
  omega
theorem el_rev {K : PySem.W.Frag} {σ : L2.St} {H : Hp} {te : TE} {xs : List V} (h : EvL te σ H xs) : EvL (tRevL K te) σ H xs.reverse := fun H1 e Q q => h H1 e _ fun p H2 _ e2 hp => ⟨p, xs, rfl, sq_of hp, fun p' hp' => q p' _ (fresh_back e2 hp') (e2.trans (Ex.new hp')) upd_same⟩
abbrev AllOk (l : List Str) : Prop := ∀ x ∈ l, PySem.PyData.strOk x = true
theorem AllOk.app {a b : List Str} (h : AllOk a) (g : AllOk b) : AllOk (a ++ b) := fun x hx => (List.mem_append.mp hx).elim (h x) (g x)
theorem AllOk.take {a : List Str} (h : AllOk a) (n : Nat) : AllOk (a.take n) := fun x hx => h x (List.mem_of_mem_take hx)
theorem AllOk.drop {a : List Str} (h : AllOk a) (n : Nat) : AllOk (a.drop n) := fun x hx => h x (List.mem_of_mem_drop hx)
theorem AllOk.rev {a : List Str} (h : AllOk a) : AllOk a.reverse := fun x hx => h x (List.mem_reverse.mp hx)
theorem AllOk.one {x : Str} (h : PySem.PyData.strOk x = true) : AllOk [x] := fun y hy => by rw [List.mem_singleton.mp hy]; exact h
theorem AllOk.two {x y : Str} (h : PySem.PyData.strOk x = true) (g : PySem.PyData.strOk y = true) : AllOk [x, y] := fun z hz => by
  rcases List.mem_cons.mp hz with rfl | hz
  · exact h
  · rw [List.mem_singleton.mp hz]; exact g
theorem AllOk.join {l : List Str} {c : Nat} (h : AllOk l) (hc : c < 0x110000) : PySem.PyData.strOk (Txt.join ⟨#[c]⟩ l) = true := ok_join (ok_iff.mpr fun d hd => by
  have e : d = c := by simpa using hd
  omega) h
theorem ok_split {z : Str} {c : Nat} (h : PySem.PyData.strOk z = true) : AllOk (Txt.split z ⟨#[c]⟩) := fun x hx => ok_iff.mpr fun d hd => by
  have h7 := join_mem ⟨#[c]⟩ (Txt.split z ⟨#[c]⟩) x d hx hd
  have h8 : Str.join ⟨#[c]⟩ (Txt.split z ⟨#[c]⟩) = z := StrLaws.join_split z ⟨#[c]⟩
  rw [h8] at h7
  exact ok_iff.mp h d h7
/-- S[:j] + [m] + S[j+1:], S[:j] + S[j+1:], S[:j] + [m] + S[j:] -/
theorem wt_a (S : List Str) (j : Nat) (m : Str) (hm : m.length ≤ 5) : wt (S.take j ++ [m] ++ S.drop (j + 1)) ≤ wt S + 6 := by
  have h1 := wt_take_drop S j
  have h2 := drop_le S j
  rw [wt_app, wt_app, wt_one]; omega
theorem wt_b (S : List Str) (j : Nat) : wt (S.take j ++ S.drop (j + 1)) ≤ wt S + 6 := by
  have h1 := wt_take_drop S j
  have h2 := drop_le S j
  rw [wt_app]; omega
theorem wt_c (S : List Str) (j : Nat) (m : Str) (hm : m.length ≤ 5) : wt (S.take j ++ [m] ++ S.drop j) ≤ wt S + 6 := by
  have h1 := wt_take_drop S j
  rw [wt_app, wt_app, wt_one]; omega
section
variable {K : PySem.W.Frag} {σ : L2.St} {H : Hp} {ta tb tc te th tk : TE} {l l2 : List Str} {x y s : Str} {p : Addr} {i j : Nat}
/-- a new list of these texts -/
abbrev ES (te : TE) (σ : L2.St) (H : Hp) (l : List Str) : Prop := EvL te σ H (l.map V.str)
theorem zs_lo (hi : σ[i]? = some (some (.ref p))) (hp : H p = some (.lst (l.map V.str))) (h : Ev th σ H (.int (j : Nat))) : ES (tSl (rSlL K) (tVar i) tNoPart (tPart th)) σ H (l.take j) :=
  el_is (el_sl (K := K) (ev_var hi) eo_none (eo_some h) (sq_of hp)) (cut_lo l j)
theorem zs_hi (hi : σ[i]? = some (some (.ref p))) (hp : H p = some (.lst (l.map V.str))) (h : Ev th σ H (.int (j : Nat))) : ES (tSl (rSlL K) (tVar i) (tPart th) tNoPart) σ H (l.drop j) :=
  el_is (el_sl (K := K) (ev_var hi) (eo_some h) eo_none (sq_of hp)) (cut_hi l j)
theorem zs_mid {k : Nat} (hi : σ[i]? = some (some (.ref p))) (hp : H p = some (.lst (l.map V.str))) (h : Ev th σ H (.int (j : Nat))) (h2 : Ev tk σ H (.int (k : Nat))) (h3 : j ≤ l.length) (h4 : j ≤ k) : ES (tSl (rSlL K) (tVar i) (tPart th) (tPart tk)) σ H ((l.take k).drop j) :=
  el_is (el_sl (K := K) (ev_var hi) (eo_some h) (eo_some h2) (sq_of hp)) (cut_midV l j k h3 h4)
theorem zs_cat (h1 : ES ta σ H l) (h2 : ES tb σ H l2) (hz : l.length + l2.length ≤ 1000000) : ES (tOp rCat ta tb) σ H (l ++ l2) :=
  el_is (el_cat h1 h2 (by rw [List.length_map, List.length_map]; exact sz hz)) (List.map_append).symm
theorem zs_one (h : Ev te σ H (.str x)) : ES (tLst (tCons te tNil)) σ H [x] := Evl.el_lst (ea1 h) (Nat.le_of_ble_eq_true rfl)
theorem zs_two (h : Ev ta σ H (.str x)) (h2 : Ev tb σ H (.str y)) : ES (tLst (tCons ta (tCons tb tNil))) σ H [x, y] := Evl.el_lst (ea2 h h2) (Nat.le_of_ble_eq_true rfl)
theorem zs_rev (h : ES te σ H l) : ES (tRevL K te) σ H l.reverse := el_is (el_rev h) (List.map_reverse).symm
theorem zv_join (hs : s.length = 1) (h : ES te σ H l) (hz : wt l ≤ 1000000) : Ev (tM1 (fun x xs H Q => ∃ a p, ∃ ys : List Str, x = .str a ∧ xs = [.ref p] ∧ (SqL K H p (ys.map V.str) ∨ SqT K H p (ys.map V.str)) ∧ (ys.map (·.length)).sum + ys.length * a.length ≤ 16777216 ∧ Q (.str (Txt.join a ys)) H) (tC (.str s)) te) σ H (.str (Txt.join s l)) :=
  ev_joinN ev_c h (by rw [hs, Nat.mul_one, ← wt_sum]; omega)
end
theorem zv_joinV {K : PySem.W.Frag} {σ : L2.St} {H : Hp} {l : List Str} {s : Str} {p : Addr} {i : Nat} (hs : s.length = 1) (hi : σ[i]? = some (some (.ref p))) (hp : H p = some (.lst (l.map V.str))) (hz : wt l ≤ 1000000) : Ev (tM1 (fun x xs H Q => ∃ a p, ∃ ys : List Str, x = .str a ∧ xs = [.ref p] ∧ (SqL K H p (ys.map V.str) ∨ SqT K H p (ys.map V.str)) ∧ (ys.map (·.length)).sum + ys.length * a.length ≤ 16777216 ∧ Q (.str (Txt.join a ys)) H) (tC (.str s)) (tVar i)) σ H (.str (Txt.join s l)) := fun H1 e Q q =>
  ⟨⟨s, rfl⟩, _, hi, s, p, l, rfl, rfl, .inl (sq_of (e _ _ hp)), by rw [hs, Nat.mul_one, ← wt_sum]; omega, q H1 (Ex.refl _)⟩
theorem one_bl : (" " : Str).length = 1 := by decide
theorem one_lf : ("\n" : Str).length = 1 := by decide
section
variable {P : Program} {w : World} {K : PySem.W.Frag} {mg : Str → Option Value} {base : Heap}
def sp_law_otherwise (K : PySem.W.Frag) : Sp := fun vs H Q _ => ∃ (a : Addr) (z : Str), vs = [.ref a, .str z] ∧ PuL a H ∧ Gd z ∧ z.length ≤ 50000 ∧ ∀ y H', Mo (some a) H H' → y.length ≤ z.length + 30 → PySem.PyData.strOk y = true → Q (.str y) H'
/-- the words in hand -/
structure O1 (a : Addr) (H : Hp) (pl : Addr) (L : List Str) (n : Nat) (ps : Addr) (S : List Str) (H' : Hp) : Prop where
  mo : Mo (some a) H H'
  gl : H' pl = some (.lst (L.map V.str))
  gs : H' ps = some (.lst (S.map V.str))
  ne : ps ≠ pl
  ln : wt S ≤ n
  ok : AllOk S
section
variable {a pl ps i2 : Addr} {H H' H1 H2 : Hp} {L S S2 : List Str} {n j m i : Nat} {σ : L2.St} {te : TE} {D : Ends} {tz : TS} {k : Int}
theorem O1.go (h : O1 a H pl L n ps S H') (hl : H pl = none) (hs : H ps = none) (m : Mo (some a) H' H1) : O1 a H pl L n ps S H1 := ⟨h.mo.trans m, m.ox _ _ (ne_fr h.mo hl) h.gl, m.ox _ _ (ne_fr h.mo hs) h.gs, h.ne, h.ln, h.ok⟩
theorem O1.wd (h : O1 a H pl L n ps S H') (hn : n ≤ m) : O1 a H pl L m ps S H' := ⟨h.mo, h.gl, h.gs, h.ne, by have := h.ln; omega, h.ok⟩
end
-- slots: 0 _law_purse_here, 1 _law_verse, 2 _law_lines, 3 _law_at, 4 _law_pick_here, 5 _law_some, 6 _law_spot, 7 _law_more
theorem SC__law_otherwise : FnScope ["_law_purse_here", "_law_verse", "_law_lines", "_law_at", "_law_pick_here", "_law_some", "_law_spot", "_law_more"] ["_law_purse_here", "_law_verse"] (defScope (top 88)) := ⟨rfl, rfl, rfl, by decide +kernel, rfl, by decide +kernel, by decide +kernel⟩
theorem cl_law_otherwise (T : Txt w K mg) : Cl P w K mg base CX0 2 "_law_otherwise" (sp_law_otherwise K) := by
  obtain ⟨fd, F, hm⟩ := T.df 52 "_law_otherwise" 88 rfl
  refine cl0 F hm SC__law_otherwise (fun vs H Q E h => by obtain ⟨a, z, rfl, hp, hg, hz, k⟩ := h; rfl) (fun _ _ _ _ _ _ us hl => match us, hl with | [_, _], _ => rfl) fun cdv A outer s H vs Q E hr h => ?_
  obtain ⟨a, z, rfl, hp, hg, hz, k⟩ := h
  refine ⟨_, (pss_cons (ps_set (i := 2) SC__law_otherwise.nd rfl (Or.inl rfl) (pe_split (pv 1) pe_str))
      (pss_cons (ps_par (i := 3) (j := 4) rfl SC__law_otherwise.nd rfl rfl (by decide) rfl rfl (pa_cons (pc (cl_law_pick T) hr (by decide) rfl (pa_cons (pv 0) (pa_cons (pe_callB call_len_seq rfl T.f_len boot_len (pa_cons (pv 2) pa_nil)) pa_nil))) (pa_cons (pc (cl_law_pick T) hr (by decide) rfl (pa_cons (pv 0) (pa_cons pe_int pa_nil))) pa_nil)) (by rfl))
      (pss_cons (ps_set (i := 5) SC__law_otherwise.nd rfl (Or.inl rfl) (pe_split (pe_ix ix_list (pv 2) (pv 3) (fun _ _ => rfl)) pe_str))
      (pss_cons (ps_set (i := 6) SC__law_otherwise.nd rfl (Or.inl rfl) (pc (cl_law_pick T) hr (by decide) rfl (pa_cons (pv 0) (pa_cons (pe_callB call_len_seq rfl T.f_len boot_len (pa_cons (pv 5) pa_nil)) pa_nil))))
      (pss_cons (ps_set (i := 7) SC__law_otherwise.nd rfl (Or.inl rfl) (pe_ix ix_list (pe_lst (pa_cons pe_str (pa_cons pe_str (pa_cons pe_str (pa_cons pe_str (pa_cons pe_str (pa_cons pe_str (pa_cons pe_str (pa_cons pe_str (pa_cons pe_str pa_nil)))))))))) (pc (cl_law_pick T) hr (by decide) rfl (pa_cons (pv 0) (pa_cons pe_int pa_nil))) (fun _ _ => rfl)))
      (pss_cons (ps_if (pt_cmpR op_eq (pv 4) pe_int (nomark _)) (pss_one (ps_set (i := 5) SC__law_otherwise.nd rfl (Or.inl rfl) (pe_op op_cat (pe_op op_cat (pe_slice sl_list (pv 5) po_none (po_some (pv 6))) (pe_lst (pa_cons (pv 7) pa_nil))) (pe_slice sl_list (pv 5) (po_some (pe_op op_add (pv 6) pe_int)) po_none)))) pss_nil)
      (pss_cons (ps_if (pt_cmpR op_eq (pv 4) pe_int (nomark _)) (pss_one (ps_set (i := 5) SC__law_otherwise.nd rfl (Or.inl rfl) (pe_op op_cat (pe_slice sl_list (pv 5) po_none (po_some (pv 6))) (pe_slice sl_list (pv 5) (po_some (pe_op op_add (pv 6) pe_int)) po_none)))) pss_nil)
      (pss_cons (ps_if (pt_cmpR op_eq (pv 4) pe_int (nomark _)) (pss_one (ps_set (i := 5) SC__law_otherwise.nd rfl (Or.inl rfl) (pe_op op_cat (pe_op op_cat (pe_slice sl_list (pv 5) po_none (po_some (pv 6))) (pe_lst (pa_cons (pv 7) pa_nil))) (pe_slice sl_list (pv 5) (po_some (pv 6)) po_none)))) pss_nil)
      (pss_cons (ps_asg (pe_join pe_str (pv 5)) (pg_sub (pv 2) (pv 3) set_list))
      (pss_cons (ps_if (pt_cmpR op_eq (pv 4) pe_int (nomark _)) (pss_one (ps_set (i := 2) SC__law_otherwise.nd rfl (Or.inl rfl) (pe_op op_cat (pe_op op_cat (pe_slice sl_list (pv 2) po_none (po_some (pv 3))) (pe_revL (pe_slice sl_list (pv 2) (po_some (pv 3)) (po_some (pe_op op_add (pv 3) pe_int))))) (pe_slice sl_list (pv 2) (po_some (pe_op op_add (pv 3) pe_int)) po_none)))) pss_nil)
      (pss_cons (ps_if (pt_cmpR op_eq (pv 4) pe_int (nomark _)) (pss_one (ps_set (i := 2) SC__law_otherwise.nd rfl (Or.inl rfl) (pe_op op_cat (pe_op op_cat (pe_slice sl_list (pv 2) po_none (po_some (pv 3))) (pe_lst (pa_cons (pe_join pe_str (pe_slice sl_list (pv 2) (po_some (pv 3)) (po_some (pe_op op_add (pv 3) pe_int)))) pa_nil))) (pe_slice sl_list (pv 2) (po_some (pe_op op_add (pv 3) pe_int)) po_none)))) pss_nil)
      (pss_cons (ps_if (pt_cmpR op_eq (pv 4) pe_int (nomark _)) (pss_one (ps_set (i := 2) SC__law_otherwise.nd rfl (Or.inl rfl) (pe_op op_cat (pe_op op_cat (pe_slice sl_list (pv 2) po_none (po_some (pv 3))) (pe_lst (pa_cons (pe_join pe_str (pe_slice sl_list (pv 5) po_none (po_some (pv 6)))) (pa_cons (pe_join pe_str (pe_slice sl_list (pv 5) (po_some (pv 6)) po_none)) pa_nil)))) (pe_slice sl_list (pv 2) (po_some (pe_op op_add (pv 3) pe_int)) po_none)))) pss_nil)
      (pss_one (ps_ret (pe_join pe_str (pv 2)))))))))))))))), ?_⟩
  have M := mo_refl hp
  have el : ("\n" : Str) = lf := by decide +kernel
  have eb : (" " : Str) = bl := by decide +kernel
  refine q_asgL (el_split (ev_var rfl) ev_c (by decide) hg.1) fun pl H1 hpl e1 g1 => ?_
  have m1 : Mo (some a) H H1 := M.ex e1
  rw [el] at g1
  have hlw : wt (Txt.split z lf) = z.length + 1 := wt_split z 10
  have okL : AllOk (Txt.split z lf) := ok_split hg.2
  have hL1 : 1 ≤ (Txt.split z lf).length := List.length_pos_iff.mpr (split_ne z 10)
  have hLn := wt_len (Txt.split z lf)
  generalize Txt.split z lf = L at g1 hlw okL hL1 hLn ⊢
  have hal : some a ≠ some pl := ne_fr m1 hpl
  refine y_par (T1 := Ti 0 (L.length - 1)) (T2 := Ti 0 5) m1.r (gva_cons (K := K) inferInstance (gv_pick (K := K) (c := L.length) (d := L.length) rfl (gv_te (gv_ev fun H2 m2 => ev_cb (ea1 (ev_var rfl)) (rc_lenL (sq_of (m2.ox _ _ hal g1)))) fun _ => ⟨_, rfl, by rw [List.length_map]; exact Int.le_refl _, by rw [List.length_map]; exact Int.le_refl _⟩) (by omega) (by omega)) (gva_cons (K := K) inferInstance (gv_pickC (K := K) rfl (by decide) (by decide)) gva_nil)) fun vi vp H2 m2 ti tp => ?_
  obtain ⟨i, rfl, i0, i1⟩ := ti
  obtain ⟨p, rfl, p0, p1⟩ := tp
  obtain ⟨i, rfl⟩ := Int.eq_ofNat_of_zero_le i0
  have hi : i < L.length := by omega
  have g2 := m2.ox _ _ hal g1
  have hx : L[i]? = some L[i] := List.getElem?_eq_getElem hi
  have okx := okL L[i] (List.getElem_mem hi)
  have hxl : L[i].length + 1 ≤ wt L := wt_mem (List.getElem_mem hi)
  generalize L[i] = x at hx okx hxl
  refine q_asgL (el_split (a := x) (ev_op (ev_var rfl) (ev_var rfl) (rv_ixL (sq_of g2) (L2.atI_nat (by rw [List.getElem?_map, hx]; rfl)))) ev_c (by decide) (by omega)) fun ps H3 hps e3 g3 => ?_
  rw [eb] at g3
  have m3 := (m1.trans m2).trans ((m1.trans m2).ex e3)
  have hSw : wt (Txt.split x bl) = x.length + 1 := wt_split x 32
  have okS : AllOk (Txt.split x bl) := ok_split okx
  have hS1 : 1 ≤ (Txt.split x bl).length := List.length_pos_iff.mpr (split_ne x 32)
  have hSn := wt_len (Txt.split x bl)
  generalize Txt.split x bl = S at g3 hSw okS hS1 hSn
  have hps0 : H ps = none := (m1.trans m2).fresh hps
  have has : some a ≠ some ps := ne_fr m3 hps0
  have hpn : ps ≠ pl := fun e => by rw [e, g2] at hps; cases hps
  have sn : ∀ n : Nat, (((n : Nat) : Int) + 1) = ((n + 1 : Nat) : Int) := fun n => rfl
  refine y_asg (T := Ti 0 (S.length - 1)) ((m1.trans m2).ex e3).r (gv_pick (K := K) (c := S.length) (d := S.length) rfl (gv_te (gv_ev fun H4 m4 => ev_cb (ea1 (ev_var rfl)) (rc_lenL (sq_of (m4.ox _ _ has g3)))) fun _ => ⟨_, rfl, by rw [List.length_map]; exact Int.le_refl _, by rw [List.length_map]; exact Int.le_refl _⟩) (by omega) (by omega)) fun vj H4 m4 tj => ?_
  obtain ⟨j, rfl, j0, j1⟩ := tj
  obtain ⟨j, rfl⟩ := Int.eq_ofNat_of_zero_le j0
  refine y_asg (T := Tq 5) m4.r (gv_ixL (K := K) inferInstance (gv_strs (n := 9) ["a", "1", "2", "-", "@a", "#b", "num", "break", "para"] (m := 5) (by decide +kernel) rfl (by decide)) (gv_pickC (K := K) rfl (by decide) (by decide)) (by decide)) fun vm H5 m5 tm => ?_
  obtain ⟨m, rfl, ml, mok⟩ := tm
  have m35 := m4.trans m5
  have O0 : O1 a H pl L (wt S) ps S H5 := ⟨m3.trans m35, m35.ox _ _ hal (e3 _ _ g2), m35.ox _ _ has g3, hpn, Nat.le_refl _, okS⟩
  have eqp : ∀ {H : Hp} {σ : L2.St} {c : Int}, σ[4]? = some (some (.int p)) → GtR (some a) (tTest (tOp rEq (tVar 4) (tC (.int c)))) σ H ATb := fun {H σ c} h => gt_test (gv_eqI (gv_v (K := K) h ⟨p, rfl, Int.le_refl _, Int.le_refl _⟩) gv_int)
  have hSb : S.length ≤ 60000 := by omega
  clear g3 has hpn m5 m4
  refine y_whenX (fun σ2 H2 => ∃ ps S2, H ps = none ∧ O1 a H pl L (wt S + 6) ps S2 H2 ∧ σ2 = [some (.ref a), some (.str z), some (.ref pl), some (.int i), some (.int p), some (.ref ps), some (.int j), some (.str m)]) m35.r (eqp rfl) (fun H6 m6 _ kk => ?_) (fun H6 m6 _ => ⟨ps, S, hps0, (O0.go hpl hps0 m6).wd (by omega), rfl⟩) fun σ2 H6 q => ?_
  · have O := O0.go hpl hps0 m6
    refine s_asgL (zs_cat (zs_cat (zs_lo (K := K) rfl O.gs (ev_var rfl)) (zs_one (ev_var rfl)) (by simp only [List.length_take, List.length_cons, List.length_nil]; omega)) (zs_hi (K := K) rfl O.gs (j := j + 1) (ev_op (ev_var rfl) ev_c rv_I0)) (by simp only [List.length_append, List.length_take, List.length_drop, List.length_cons, List.length_nil]; omega)) fun pn H7 hpn e7 g7 => kk _ _ ⟨pn, _, O.mo.fresh hpn, ⟨O.mo.trans (O.mo.ex e7), e7 _ _ O.gl, g7, fun e => (by rw [e, O.gl] at hpn; cases hpn), wt_a S j m ml, ((okS.take j).app (.one mok)).app (okS.drop _)⟩, rfl⟩
  obtain ⟨ps, S2, hps, O, rfl⟩ := q
  have hS2 : S2.length ≤ 70000 := by
    have h1 := wt_len S2
    have h2 := O.ln
    omega
  refine y_whenX (fun σ2 H2 => ∃ ps S2, H ps = none ∧ O1 a H pl L (wt S + 12) ps S2 H2 ∧ σ2 = [some (.ref a), some (.str z), some (.ref pl), some (.int i), some (.int p), some (.ref ps), some (.int j), some (.str m)]) O.mo.r (eqp rfl) (fun H7 m7 _ kk => ?_) (fun H7 m7 _ => ⟨ps, S2, hps, (O.go hpl hps m7).wd (by omega), rfl⟩) fun σ2 H6 q => ?_
  · have O := O.go hpl hps m7
    have hln := O.ln
    refine s_asgL (zs_cat (zs_lo (K := K) rfl O.gs (ev_var rfl)) (zs_hi (K := K) rfl O.gs (j := j + 1) (ev_op (ev_var rfl) ev_c rv_I0)) (by simp only [List.length_append, List.length_take, List.length_drop, List.length_cons, List.length_nil]; omega)) fun pn H8 hpn e8 g8 => kk _ _ ⟨pn, _, O.mo.fresh hpn, ⟨O.mo.trans (O.mo.ex e8), e8 _ _ O.gl, g8, fun e => (by rw [e, O.gl] at hpn; cases hpn), Nat.le_trans (wt_b S2 j) (by omega), (O.ok.take j).app (O.ok.drop _)⟩, rfl⟩
  obtain ⟨ps, S2, hps, O, rfl⟩ := q
  have hS2 : S2.length ≤ 70000 := by
    have h1 := wt_len S2
    have h2 := O.ln
    omega
  refine y_whenX (fun σ2 H2 => ∃ ps S2, H ps = none ∧ O1 a H pl L (wt S + 18) ps S2 H2 ∧ σ2 = [some (.ref a), some (.str z), some (.ref pl), some (.int i), some (.int p), some (.ref ps), some (.int j), some (.str m)]) O.mo.r (eqp rfl) (fun H7 m7 _ kk => ?_) (fun H7 m7 _ => ⟨ps, S2, hps, (O.go hpl hps m7).wd (by omega), rfl⟩) fun σ2 H6 q => ?_
  · have O := O.go hpl hps m7
    have hln := O.ln
    refine s_asgL (zs_cat (zs_cat (zs_lo (K := K) rfl O.gs (ev_var rfl)) (zs_one (ev_var rfl)) (by simp only [List.length_append, List.length_take, List.length_drop, List.length_cons, List.length_nil]; omega)) (zs_hi (K := K) rfl O.gs (j := j) (ev_var rfl)) (by simp only [List.length_append, List.length_take, List.length_drop, List.length_cons, List.length_nil]; omega)) fun pn H8 hpn e8 g8 => kk _ _ ⟨pn, _, O.mo.fresh hpn, ⟨O.mo.trans (O.mo.ex e8), e8 _ _ O.gl, g8, fun e => (by rw [e, O.gl] at hpn; cases hpn), Nat.le_trans (wt_c S2 j m ml) (by omega), ((O.ok.take j).app (.one mok)).app (O.ok.drop _)⟩, rfl⟩
  obtain ⟨ps, S2, hps, O, rfl⟩ := q
  have hS2 : S2.length ≤ 70000 := by
    have h1 := wt_len S2
    have h2 := O.ln
    omega
  have hln := O.ln
  have hokS2 := O.ok
  have okj : PySem.PyData.strOk (Txt.join bl S2) = true := O.ok.join (by decide)
  have hjl : (Txt.join bl S2).length ≤ wt S2 := join_le 32 S2
  have hjg : wt S2 ≤ (Txt.join bl S2).length + 1 := join_ge 32 S2
  have hwS : wt S2 ≤ 100000 := by omega
  refine q_setL (j := i) O.gl (zv_joinV (K := K) one_bl rfl O.gs (by omega)) (ev_var rfl) (ev_var rfl) (by rw [List.length_map]; exact hi) fun H7 e7 => ?_
  have es : (L.map V.str).set i (.str (Txt.join (" " : Str) S2)) = (L.set i (Txt.join bl S2)).map V.str := by rw [eb, List.map_set]
  rw [es]
  have hw1 := wt_set (y := Txt.join bl S2) hx
  have okL1 : AllOk (L.set i (Txt.join bl S2)) := fun y hy => by
    rcases List.mem_or_eq_of_mem_set hy with hy | rfl
    · exact okL y hy
    · exact okj
  have hat1 : (L.set i (Txt.join bl S2))[i]? = some (Txt.join bl S2) := by rw [List.getElem?_set_self hi]
  have hlen1 : (L.set i (Txt.join bl S2)).length = L.length := List.length_set
  have U0 : O1 a H ps S2 (wt L + 19) pl (L.set i (Txt.join bl S2)) (upd H7 pl (.lst ((L.set i (Txt.join bl S2)).map V.str))) := ⟨mo_upd (O.mo.trans (O.mo.ex e7)) hpl, by rw [upd_ne O.ne]; exact e7 _ _ O.gs, upd_same, Ne.symm O.ne, by omega, okL1⟩
  generalize upd H7 pl (.lst ((L.set i (Txt.join bl S2)).map V.str)) = H8 at U0 ⊢
  generalize L.set i (Txt.join bl S2) = L1 at U0 hat1 hlen1 hw1
  clear O es okL1 e7
  have eqx : ∀ {H : Hp} {σ : L2.St} {c : Int}, σ[4]? = some (some (.int p)) → GtR (some a) (tTest (tOp rEq (tVar 4) (tC (.int c)))) σ H (fun b => b = true → p = c) := fun {H σ c} h H1 m Q q => gt_et (b := decide (V.int p = V.int c)) (fun H2 _ => et_test (ev_op (ev_var h) ev_c (rv_eq rfl))) H1 m Q fun b H2 m2 hb => q b H2 m2 fun h => by
    rw [h] at hb
    exact V.int.inj (of_decide_eq_true hb.symm)
  refine y_whenX (fun σ2 H2 => ∃ pq L2, H pq = none ∧ O1 a H ps S2 (wt L + 19) pq L2 H2 ∧ (p ≠ 3 → L2 = L1) ∧ σ2 = [some (.ref a), some (.str z), some (.ref pq), some (.int i), some (.int p), some (.ref ps), some (.int j), some (.str m)]) U0.mo.r (eqx (c := 3) rfl) (fun H9 m9 hp3 kk => ?_) (fun H9 m9 _ => ⟨pl, L1, hpl, (U0.go hps hpl m9).wd (by omega), fun _ => rfl, rfl⟩) fun σ2 H9 q => ?_
  · have O := U0.go hps hpl m9
    have hL1n := wt_len L1
    have hmid := mid_wt L1 i
    refine s_asgL (zs_cat (zs_cat (zs_lo (K := K) rfl O.gs (ev_var rfl)) (zs_rev (K := K) (zs_mid (K := K) (k := i + 2) rfl O.gs (ev_var rfl) (ev_op (ev_var rfl) ev_c rv_I0) (by omega) (by omega))) (by simp only [List.length_append, List.length_take, List.length_drop, List.length_cons, List.length_nil, List.length_reverse]; omega)) (zs_hi (K := K) rfl O.gs (j := i + 2) (ev_op (ev_var rfl) ev_c rv_I0)) (by simp only [List.length_append, List.length_take, List.length_drop, List.length_cons, List.length_nil, List.length_reverse]; omega)) fun pn H10 hpn e10 g10 => kk _ _ ⟨pn, _, O.mo.fresh hpn, ⟨O.mo.trans (O.mo.ex e10), e10 _ _ O.gl, g10, fun e => (by rw [e, O.gl] at hpn; cases hpn), by rw [wt_app, wt_app, wt_rev, hmid]; exact O.ln, ((O.ok.take i).app ((O.ok.take _).drop _).rev).app (O.ok.drop _)⟩, fun h => absurd (hp3 rfl) h, rfl⟩
  obtain ⟨pq, L2, hpq, O, hl5, rfl⟩ := q
  have hL2n := wt_len L2
  have hL2w := O.ln
  refine y_whenX (fun σ2 H2 => ∃ pq L2, H pq = none ∧ O1 a H ps S2 (wt L + 20) pq L2 H2 ∧ (p = 5 → L2 = L1) ∧ σ2 = [some (.ref a), some (.str z), some (.ref pq), some (.int i), some (.int p), some (.ref ps), some (.int j), some (.str m)]) O.mo.r (eqx (c := 4) rfl) (fun H9 m9 hp3 kk => ?_) (fun H9 m9 _ => ⟨pq, L2, hpq, (O.go hps hpq m9).wd (by omega), fun h => hl5 (by omega), rfl⟩) fun σ2 H9 q => ?_
  · have O := O.go hps hpq m9
    have hmid := mid_wt L2 i
    have hjm : (Txt.join bl ((L2.take (i + 2)).drop i)).length ≤ wt ((L2.take (i + 2)).drop i) := join_le 32 _
    have hil : i ≤ L2.length := by
      rw [hl5 (by rw [hp3 rfl]; decide)]
      omega
    refine s_asgL (zs_cat (zs_cat (zs_lo (K := K) rfl O.gs (ev_var rfl)) (zs_one (zv_join (K := K) one_bl (zs_mid (K := K) (k := i + 2) rfl O.gs (ev_var rfl) (ev_op (ev_var rfl) ev_c rv_I0) hil (by omega)) (by omega))) (by simp only [List.length_append, List.length_take, List.length_drop, List.length_cons, List.length_nil, List.length_reverse]; omega)) (zs_hi (K := K) rfl O.gs (j := i + 2) (ev_op (ev_var rfl) ev_c rv_I0)) (by simp only [List.length_append, List.length_take, List.length_drop, List.length_cons, List.length_nil, List.length_reverse]; omega)) fun pn H10 hpn e10 g10 => kk _ _ ⟨pn, _, O.mo.fresh hpn, ⟨O.mo.trans (O.mo.ex e10), e10 _ _ O.gl, g10, fun e => (by rw [e, O.gl] at hpn; cases hpn), by rw [wt_app, wt_app, wt_one, eb]; omega, ((O.ok.take i).app (.one (by rw [eb]; exact ((O.ok.take _).drop _).join (by decide)))).app (O.ok.drop _)⟩, fun h => absurd (hp3 rfl) (by omega), rfl⟩
  obtain ⟨pq, L2, hpq, O, hl5, rfl⟩ := q
  have hL2n := wt_len L2
  have hL2w := O.ln
  refine y_whenX (fun σ2 H2 => ∃ pq L2, H pq = none ∧ O1 a H ps S2 (wt L + 22) pq L2 H2 ∧ True ∧ σ2 = [some (.ref a), some (.str z), some (.ref pq), some (.int i), some (.int p), some (.ref ps), some (.int j), some (.str m)]) O.mo.r (eqx (c := 5) rfl) (fun H9 m9 hp3 kk => ?_) (fun H9 m9 _ => ⟨pq, L2, hpq, (O.go hps hpq m9).wd (by omega), trivial, rfl⟩) fun σ2 H9 q => ?_
  · have O := O.go hps hpq m9
    have e5 := hl5 (hp3 rfl)
    subst e5
    have hw2 := wt_at hat1
    have htd := wt_take_drop S2 j
    have a1 : (Txt.join bl (S2.take j)).length ≤ wt (S2.take j) := join_le 32 _
    have a2 : (Txt.join bl (S2.drop j)).length ≤ wt (S2.drop j) := join_le 32 _
    have okS2 : AllOk S2 := hokS2
    refine s_asgL (zs_cat (zs_cat (zs_lo (K := K) rfl O.gs (ev_var rfl)) (zs_two (zv_join (K := K) one_bl (zs_lo (K := K) rfl O.gl (ev_var rfl)) (by omega)) (zv_join (K := K) one_bl (zs_hi (K := K) rfl O.gl (j := j) (ev_var rfl)) (by omega))) (by simp only [List.length_append, List.length_take, List.length_drop, List.length_cons, List.length_nil, List.length_reverse]; omega)) (zs_hi (K := K) rfl O.gs (j := i + 1) (ev_op (ev_var rfl) ev_c rv_I0)) (by simp only [List.length_append, List.length_take, List.length_drop, List.length_cons, List.length_nil, List.length_reverse]; omega)) fun pn H10 hpn e10 g10 => kk _ _ ⟨pn, _, O.mo.fresh hpn, ⟨O.mo.trans (O.mo.ex e10), e10 _ _ O.gl, g10, fun e => (by rw [e, O.gl] at hpn; cases hpn), by rw [wt_app, wt_app, wt_cons, wt_one, eb]; omega, ((O.ok.take i).app (.two (by rw [eb]; exact (okS2.take _).join (by decide)) (by rw [eb]; exact (okS2.drop _).join (by decide)))).app (O.ok.drop _)⟩, trivial, rfl⟩
  obtain ⟨pq, L2, hpq, O, _, rfl⟩ := q
  have hL2w := O.ln
  have hjf : (Txt.join lf L2).length ≤ wt L2 := join_le 10 L2
  refine s_ret (zv_joinV (K := K) one_lf rfl O.gs (by omega)) fun H10 e10 => k _ H10 (O.mo.trans (O.mo.ex e10)) (by rw [el]; omega) (by rw [el]; exact O.ok.join (by decide))
end
end Pk
set_option Elab.async false
set_option linter.all false
set_option maxRecDepth 100000
set_option maxHeartbeats 4000000
namespace Pk
open PySem PySem.Spec PyProof.Rows L2 Evl
section
variable {X : Cx} {W : WX} {k j : Nat} {x : Str} {sp : Sp} {p pos : Pos} {e : Expr} {es : List Expr} {t : TA}
/-- a def that may raise, called in a try -/
theorem pcS (c : Cl X.prog X.w X.K X.mg X.base (L2.CX X.prog X.w) k x sp) (tk : Takes X W) (hr : Room j X.A) (hk : k ≤ j) (hg : Gl X x) (ha : PA X (e :: es) t)
    (hdb : (x == ("__debug__" : Str)) = false := by decide) (he : starEach (e :: es) X.env = (false, eval e X.env) :: starEach es X.env := by rfl) (hpl : (backTo pos (starEach es X.env)).any (·.1) = false := by rfl) :
    PE X (.Call (.Name x p) (e :: es) [] pos) (tCallS sp (WE W) t) := by
  obtain ⟨f, fd, ps, F, hm, kp, b⟩ := c.ex
  exact pe_callS F (hr.mono hk) hg hm kp b (fun σ => passAt tk σ) ha hdb he hpl
end
section
variable {P : Program} {w : World} {K : PySem.W.Frag} {mg : Str → Option Value} {base : Heap}
-- slots: 0 _law_verse
theorem SC__law_read : FnScope ["_law_verse"] ["_law_verse"] (defScope (top 89)) := ⟨rfl, rfl, rfl, by decide +kernel, rfl, by decide +kernel, by decide +kernel⟩
def sp_law_read (K : PySem.W.Frag) : Sp := fun vs H Q _ => ∃ z : Str, vs = [.str z] ∧ Gd z ∧ (∀ rows a H', readT z = some rows → Ex H H' → TextAt K H' rows a → Q (.ref a) H') ∧ (readT z = none → ∀ H', Ex H H' → Q .non H')
theorem cl_law_read (T : Txt w K mg) : Cl P w K mg base CX0 13 "_law_read" (sp_law_read K) := by
  obtain ⟨fd, F, hm⟩ := T.df 53 "_law_read" 89 rfl
  refine cl0 F hm SC__law_read (fun vs H Q E h => by obtain ⟨z, rfl, _⟩ := h; rfl) (fun _ _ _ _ _ _ us hl => match us, hl with | [_], _ => rfl) fun cdv A outer s H vs Q E hr h => ?_
  obtain ⟨z, rfl, hg, k1, k2⟩ := h
  refine ⟨_, pss_one (ps_try_only (tb := fun W => tRet (tCallS (sp_read_text K) (WE W) (tCons (tVar 0) tNil))) (ts := fun _ _ _ => tRet (tC .non)) (Wout := fun _ _ _ _ => False) rfl rfl ⟨rfl, by decide, .inl T.gl_NoText⟩ takes0
    (fun W pn xe tk _ => pss_one (ps_ret (by exact pcS (cl_read_text T) tk hr (by decide) rfl (by exact (pa_cons (pv 0) pa_nil))))) (fun a oe cls d pn _ _ => pss_one (ps_ret pe_non))), ?_⟩
  exact ⟨_, rfl, z, rfl, hg, fun rows a H1 h1 e1 t1 => k1 rows a H1 h1 e1 t1, fun h1 d H1 e1 => ⟨true, T.exm_NoText, fun _ a ha => k2 h1 H1 e1, fun q => nomatch q⟩⟩
end
end Pk
set_option Elab.async false
set_option linter.all false
set_option maxRecDepth 100000
set_option maxHeartbeats 4000000
namespace Pk
open PySem PySem.Spec PyProof.Rows L2 Evl
section
variable {P : Program} {w : World} {K : PySem.W.Frag} {mg : Str → Option Value} {base : Heap}
theorem TextAt.ex {H H' : Hp} {rows : List Row} {a : Addr} (h : TextAt K H rows a) (e : Ex H H') : TextAt K H' rows a := by
  obtain ⟨dx, b, hat, as, hq, hp⟩ := h
  exact ⟨dx, b, e _ _ hat, as, ex_t e hq, Paired.mono (fun r a h => h.mono e) hp⟩
/-- what is known of rows that were read -/
structure RdOk (z : Str) (rows : List Row) : Prop where
  rd : readT z = some rows
  gd : Gd z
  ln : z.length ≤ 900000
section
variable {z : Str} {rows : List Row}
theorem RdOk.m (h : RdOk z rows) : ∀ r ∈ rows, rowM r = true := (readM_ok h.rd).2.2.2
theorem RdOk.l (h : RdOk z rows) : rows.length ≤ 80 := (readM_ok h.rd).2.1
theorem RdOk.wt (h : RdOk z rows) : wts (rows.map rowWords) ≤ 2000000 := by
  have h1 := form_len h.rd
  have := h.ln
  omega
theorem ok_form {kws : List (List Str)} (h : ∀ ws ∈ kws, ∀ x ∈ ws, PySem.PyData.strOk x = true) : PySem.PyData.strOk (formT kws) = true := by
  unfold formT
  refine ok_join (by decide +kernel) fun y hy => ?_
  obtain ⟨ws, hw, rfl⟩ := List.mem_map.mp hy
  exact ok_join (by decide +kernel) (h ws hw)
theorem RdOk.g (h : RdOk z rows) : Gd (form rows) := by
  refine ⟨?_, ?_⟩
  · have h1 := form_short h.rd
    have := h.ln
    omega
  · have h1 : rows.map rowWords = kept z := (readM_ok h.rd).1
    unfold form
    rw [h1]
    exact ok_form (ok_kept h.gd)
theorem RdOk.again (h : RdOk z rows) : readT (form rows) = some rows := read_form h.rd
end
abbrev rStrT (P : Program) (w : World) (K : PySem.W.Frag) : List V → Hp → VK → Prop := fun xs H Q => ∃ a dx fs, xs = [.ref a] ∧ H a = some (.ins (He.ga K "Text") dx fs) ∧ sp_Text_str P w K [.ref a] H (fun v H' => (∃ z, v = .str z) ∧ Q v H') E0
section
variable {σ : L2.St} {H H' : Hp} {ta tb tc te : TE} {a b : Addr} {rows ra rb : List Row} {z : Str}
theorem ev_strOwn (he : Ev te σ H (.ref a)) (ht : TextAt K H rows a) (h : RdOk z rows) : Ev (tCB (rStrT P w K) (tCons te tNil)) σ H (.str (form rows)) := fun H1 e Q q => he H1 e _ fun H2 e2 => by
  have t2 := ht.ex (e.trans e2)
  obtain ⟨dx, b, hat, _⟩ := id t2
  exact ⟨a, dx, _, rfl, hat, a, rows, rfl, t2, h.m, h.l, h.wt, fun H3 s3 => ⟨⟨_, rfl⟩, q H3 (Ex.trans e2 s3)⟩⟩
theorem rv_eqOwn (ha : TextAt K H ra a) (hb : TextAt K H rb b) : RV (fun x y H Q => ∃ a b dx dy fs gs, x = .ref a ∧ y = .ref b ∧ H a = some (.ins (He.ga K "Text") dx fs) ∧ H b = some (.ins (He.ga K "Text") dy gs) ∧ sp_Text_eq P w K [.ref a, .ref b] H (fun v H' => (∃ c, v = .bl c) ∧ Q v H') E0) (.ref a) (.ref b) H (.bl (decide (ra = rb))) := fun H1 e Q q => by
  have t1 := ha.ex e
  have t2 := hb.ex e
  obtain ⟨dx, _, h1, _⟩ := id t1
  obtain ⟨dy, _, h2, _⟩ := id t2
  exact ⟨a, b, dx, dy, _, _, rfl, rfl, h1, h2, a, b, ra, rb, rfl, t1, t2, fun H3 s3 => ⟨⟨_, rfl⟩, q H3 s3⟩⟩
theorem rv_neOwn (ha : TextAt K H ra a) (hb : TextAt K H rb b) : RV (fun x y H Q => ∃ a b dx dy fs gs, x = .ref a ∧ y = .ref b ∧ H a = some (.ins (He.ga K "Text") dx fs) ∧ H b = some (.ins (He.ga K "Text") dy gs) ∧ sp_Text_eq P w K [.ref a, .ref b] H (fun v H' => ∃ c, v = .bl c ∧ Q (.bl (!c)) H') E0) (.ref a) (.ref b) H (.bl (!decide (ra = rb))) := fun H1 e Q q => by
  have t1 := ha.ex e
  have t2 := hb.ex e
  obtain ⟨dx, _, h1, _⟩ := id t1
  obtain ⟨dy, _, h2, _⟩ := id t2
  exact ⟨a, b, dx, dy, _, _, rfl, rfl, h1, h2, a, b, ra, rb, rfl, t1, t2, fun H3 s3 => ⟨_, rfl, q H3 s3⟩⟩
/-- read_text(..).rows == x.rows -/
theorem ev_rowsEq (T : Txt w K mg) {E : XK} (hte : Ev te σ H (.str z)) (hg : Gd z) (hr : readT z = some rows) (hb : Ev tb σ H (.ref b)) (ht : TextAt K H rows b) : Ev (tOp (rEqD K) (tFld K (tCall (sp_read_text K) [] E (tCons te tNil)) "rows") (tFld K tb "rows")) σ H (.bl true) := fun H1 e Q q => by
  refine hte H1 e _ fun H2 e2 => ⟨z, rfl, hg, fun rows' a H3 h3 e3 t3 => ?_, fun h => by rw [hr] at h; cases h⟩
  rw [hr] at h3
  cases h3
  obtain ⟨dx, ba, hat, hra⟩ := t3
  refine ⟨a, _, dx, _, .ref ba, rfl, hat, T.k_Text, T.no_Text _ (by decide), rfl, ?_⟩
  have e13 := e.trans (e2.trans e3)
  obtain ⟨dy, bb, hbt, hrb⟩ := ht
  refine ev_fldR hbt T.k_Text (T.no_Text _ (by decide)) (show ([("rows", V.ref bb)] : List (Str × V)).lookup ("rows" : Str) = some (.ref bb) from rfl) hb H3 e13 _ fun H4 e4 => ?_
  have r1 : RowsAt K H4 rows ba := by
    obtain ⟨as, hq, hp⟩ := hra
    exact ⟨as, ex_t e4 hq, Paired.mono (fun r a h => h.mono e4) hp⟩
  have r2 : RowsAt K H4 rows bb := by
    obtain ⟨as, hq, hp⟩ := hrb
    exact ⟨as, ex_t (e13.trans e4) hq, Paired.mono (fun r a h => h.mono (e13.trans e4)) hp⟩
  obtain ⟨d1, s1⟩ := r1.dp
  obtain ⟨d2, s2⟩ := r2.dp
  refine ⟨_, _, d1, d2, s1, s2, ?_⟩
  have e5 : PyData.eqv (drows rows) (drows rows) = true := (eqv_drows rows rows).trans (decide_eq_true rfl)
  rw [e5]
  exact q H4 ((e2.trans e3).trans e4)
end
def sp_law_one_form (K : PySem.W.Frag) : Sp := fun vs H Q _ => ∃ z : Str, vs = [.str z] ∧ Gd z ∧ z.length ≤ 900000 ∧ (readT z = none → ∀ p H', Ex H H' → H' p = some (.tup [.bl true, .non]) → Q (.ref p) H') ∧ (∀ rows, readT z = some rows → ∀ a p H', Ex H H' → TextAt K H' rows a → H' p = some (.tup [.bl true, .ref a]) → Q (.ref p) H')
-- slots: 0 _law_verse, 1 _law_sheet, 2 _law_again
theorem SC__law_one_form : FnScope ["_law_verse", "_law_sheet", "_law_again"] ["_law_verse"] (defScope (top 90)) := ⟨rfl, rfl, rfl, by decide +kernel, rfl, by decide +kernel, by decide +kernel⟩
theorem cl_law_one_form (T : Txt w K mg) : Cl P w K mg base CX0 14 "_law_one_form" (sp_law_one_form K) := by
  obtain ⟨fd, F, hm⟩ := T.df 54 "_law_one_form" 90 rfl
  refine cl0 F hm SC__law_one_form (fun vs H Q E h => by obtain ⟨z, rfl, hg, hl, k1, k2⟩ := h; rfl) (fun _ _ _ _ _ _ us hl => match us, hl with | [_], _ => rfl) fun cdv A outer s H vs Q E hr h => ?_
  obtain ⟨z, rfl, hg, hl, k1, k2⟩ := h
  refine ⟨_, (pss_cons (ps_set (i := 1) SC__law_one_form.nd rfl (Or.inl rfl) (pc (cl_law_read T) hr (by decide) rfl (pa_cons (pv 0) pa_nil)))
      (pss_cons (ps_if (pt_cmpR op_isN (pv 1) pe_non (nomark _)) (pss_one (ps_ret (pe_tup (pa_cons pe_bl (pa_cons pe_non pa_nil))))) pss_nil)
      (pss_cons (ps_set (i := 2) SC__law_one_form.nd rfl (Or.inl rfl) (pcN (cl_read_text T) hr (by decide) rfl (pa_cons (pe_callTy (call_strOwn (me___str__ T) hr (by decide)) rfl T.f_str boot_str (pa_cons (pv 1) pa_nil)) pa_nil)))
      (pss_one (ps_ret (pe_tup (pa_cons (pe_and (pe_cmpR (op_eqOwn (me___eq__ T) hr (by decide)) (pv 2) (pv 1) (nomark _)) (pe_and (pe_cmpR op_eq (pe_callTy (call_strOwn (me___str__ T) hr (by decide)) rfl T.f_str boot_str (pa_cons (pv 2) pa_nil)) (pe_callTy (call_strOwn (me___str__ T) hr (by decide)) rfl T.f_str boot_str (pa_cons (pv 1) pa_nil)) (nomark _)) (pe_one (pe_cmpR (op_eqD hr.units) (pe_fld (pcN (cl_read_text T) hr (by decide) rfl (pa_cons (pe_callTy (call_strOwn (me___str__ T) hr (by decide)) rfl T.f_str boot_str (pa_cons (pv 2) pa_nil)) pa_nil)) rfl) (pe_fld (pv 1) rfl) (nomark _))))) (pa_cons (pv 1) pa_nil)))))))), ?_⟩
  cases hz : readT z with
  | none =>
    refine q_asg (v := .non) (ev_callV (ea1 (ev_var rfl)) fun H1 e1 Q k => ⟨z, rfl, hg, fun rows a H' h => (by rw [hz] at h; cases h), fun _ H' e => k H' e⟩) fun H1 e1 => ?_
    refine q_when (b := true) (et_test (ev_op (ev_var rfl) ev_c rv_is)) (fun _ H2 e2 => ?_) (fun h => by cases h)
    exact s_retU (eu_tup (ea2 ev_c ev_c) (by decide)) fun p H3 hp e3 h3 => k1 hz p H3 ((e1.trans e2).trans e3) h3
  | some rows =>
    have ok : RdOk z rows := ⟨hz, hg, hl⟩
    refine ⟨_, rfl, z, rfl, hg, fun rows' a H1 h1 e1 t1 => ?_, fun h => by rw [hz] at h; cases h⟩
    rw [hz] at h1
    cases h1
    refine q_when (b := false) (et_is (et_test (ev_op (ev_var (v := .ref a) rfl) ev_c rv_is)) (decide_eq_false fun e => by cases e)) (fun h => by cases h) (fun _ H2 e2 => ?_)
    have t2 := t1.ex e2
    refine ev_strOwn (P := P) (w := w) (ev_var (v := .ref a) rfl) t2 ok H2 (Ex.refl _) _ fun H3 e3 => ⟨form rows, rfl, ok.g, fun rows' b H4 h4 e4 t4 => ?_, fun h => by rw [ok.again] at h; cases h⟩
    rw [ok.again] at h4
    cases h4
    have t24 := t2.ex (e3.trans e4)
    have ok2 : RdOk z rows := ok
    refine s_retU (eu_tup (ea2 (y := .ref a) (x := .bl true) (ev_is (ev_andV (a := true) (ev_is (ev_op (ev_var (v := .ref b) rfl) (ev_var (v := .ref a) rfl) (rv_eqOwn (P := P) (w := w) t4 t24)) (by rw [decide_eq_true rfl])) fun _ => ev_andV (a := true) (ev_is (ev_op (ev_strOwn (P := P) (w := w) (ev_var (v := .ref b) rfl) t4 ok2) (ev_strOwn (P := P) (w := w) (ev_var (v := .ref a) rfl) t24 ok) (rv_eq rfl)) (by rw [decide_eq_true rfl])) fun _ => ev_rowsEq T (ev_strOwn (P := P) (w := w) (ev_var (v := .ref b) rfl) t4 ok2) ok.g ok.again (ev_var (v := .ref a) rfl) t24) rfl) (ev_var rfl)) (Nat.le_of_ble_eq_true rfl)) fun p H5 hp e5 h5 => k2 rows hz a p H5 ((((e1.trans e2).trans e3).trans e4).trans e5) (t24.ex e5) h5
end
end Pk
set_option Elab.async false
set_option linter.all false
set_option maxRecDepth 100000
set_option maxHeartbeats 4000000
namespace Pk
open PySem PySem.Spec PyProof.Rows L2 Evl
section
variable {P : Program} {w : World} {K : PySem.W.Frag} {mg : Str → Option Value} {base : Heap}
section
variable {pu : Option Addr} {σ : L2.St} {H H' H0 H1 H2 : Hp} {ta tb tc te tx tv : TE} {x y z v : V} {D : Ends} {tu tw tz : TS} {T U S T1 T2 : TP} {e e0 : TP} {a p : Addr} {zt : Str} {rows : List Row}
theorem mo_exF (h : H0 p = none) (e : Ex H0 H1) (m : Mo (some p) H1 H2) : Ex H0 H2 := fun b o hb => m.ox b o (fun q => by
  have q2 : p = b := Option.some.inj q
  rw [← q2, h] at hb
  cases hb) (e b o hb)
theorem TextAt.mo (h : TextAt K H rows a) (m : Mo (some p) H H') : TextAt K H' rows a := by
  obtain ⟨dx, b, hat, as, hq, hp⟩ := h
  refine ⟨dx, b, m.ox _ _ (fun q => ?_) hat, as, m.t hq, Paired.mono (fun r a h => h.map fun p xs h => m.t h) hp⟩
  have q2 : p = a := Option.some.inj q
  obtain ⟨x, y, z, h2⟩ := m.p0 p rfl
  rw [q2, hat] at h2
  cases h2
/-- what is told of a text that was asked for -/
def Sheet (K : PySem.W.Frag) (z : Str) (v : V) (H : Hp) : Prop := (v = .non ∧ readT z = none) ∨ ∃ rows a, v = .ref a ∧ readT z = some rows ∧ TextAt K H rows a
theorem Sheet.ex (h : Sheet K zt v H) (e : Ex H H') : Sheet K zt v H' := by
  rcases h with h | ⟨rows, a, h1, h2, h3⟩
  · exact .inl h
  · exact .inr ⟨rows, a, h1, h2, h3.ex e⟩
theorem Sheet.mo (h : Sheet K zt v H) (m : Mo (some p) H H') : Sheet K zt v H' := by
  rcases h with h | ⟨rows, a, h1, h2, h3⟩
  · exact .inl h
  · exact .inr ⟨rows, a, h1, h2, h3.mo m⟩
theorem q_form {i j : Nat} {E : XK} (h : Ev te σ H (.str zt)) (hg : Gd zt) (hl : zt.length ≤ 900000) (k : ∀ v H1, Ex H H1 → Sheet K zt v H1 → tz D ((σ.set i (some (.bl true))).set j (some v)) H1) :
    tSeq (tAsg (tCall (sp_law_one_form K) [] E (tCons te tNil)) (gTup K 2 (gCons (gName i) (gCons (gName j) gNil)))) tz D σ H := h H (Ex.refl _) _ fun H1 e1 => by
  refine ⟨zt, rfl, hg, hl, fun hz p H2 e2 h2 => sq_g_pair (st_of h2) (k _ H2 (e1.trans e2) (.inl ⟨rfl, hz⟩)), fun rows hz a p H2 e2 t2 h2 => sq_g_pair (st_of h2) (k _ H2 (e1.trans e2) (.inr ⟨rows, a, rfl, hz, t2⟩))⟩
theorem gv_cut70 {lo hi : Nat} (s : Sv K e) (h : Gv pu te σ H (Tt K e lo hi)) : Gv pu (tSl (rSlA K) te tNoPart (tPart (tC (.int 70)))) σ H (Tt K e 0 70) := fun H1 m Q q =>
  h H1 m _ fun v H2 m2 t => ⟨70, rfl, by
    obtain ⟨p, xs, rfl, e2, e3, e4, e5⟩ := t
    refine ⟨p, xs, rfl, e2, fun hw => q _ H2 m2 ⟨p, xs, rfl, e2, Nat.zero_le _, ?_, e5⟩, fun _ p' hp => ?_⟩
    · have h2 := hw.2
      have h3 : HT.sIx xs.length xs.length (some (70 : Int)) = min 70 xs.length := HT.sIx_nat _ _ 70
      rw [h3] at h2
      omega
    · have m5 := (m.trans m2).ex (Ex.new (o := .tup (cutV xs none (some 70))) hp)
      refine q _ _ (m2.trans m5) ⟨p', _, rfl, st_of upd_same, Nat.zero_le _, ?_, fun x hx => s.st _ _ _ (e5 x (cutV_mem hx)) m5.ts⟩
      have h3 : HT.sIx xs.length xs.length (some (70 : Int)) = min 70 xs.length := HT.sIx_nat _ _ 70
      unfold cutV
      rw [List.length_take, h3]
      omega⟩
theorem gv_loosely {i : Nat} {E : XK} {n m : Nat} (h0 : σ[i]? = some (some (.ref p))) (h : Gv (some p) te σ H (Tq n)) (hn : n ≤ 50000) (hm : 19 * (n + 1) ≤ m) : Gv (some p) (tCall (sp_law_loosely K) [] E (tCons (tVar i) (tCons te tNil))) σ H (Tq m) := fun H1 m1 Q q =>
  ⟨_, h0, h H1 m1 _ fun v H2 m2 t => by
    obtain ⟨z, rfl, z1, z2⟩ := t
    exact ⟨p, z, rfl, m2.p1 p rfl, ⟨by omega, z2⟩, by omega, fun y H3 m3 y1 y2 => q _ H3 (m2.trans m3) ⟨y, rfl, by omega, y2⟩⟩⟩
theorem gv_otherwise {i : Nat} {E : XK} {n m : Nat} (h0 : σ[i]? = some (some (.ref p))) (h : Gv (some p) te σ H (Tq n)) (hn : n ≤ 50000) (hm : n + 30 ≤ m) : Gv (some p) (tCall (sp_law_otherwise K) [] E (tCons (tVar i) (tCons te tNil))) σ H (Tq m) := fun H1 m1 Q q =>
  ⟨_, h0, h H1 m1 _ fun v H2 m2 t => by
    obtain ⟨z, rfl, z1, z2⟩ := t
    exact ⟨p, z, rfl, m2.p1 p rfl, ⟨by omega, z2⟩, by omega, fun y H3 m3 y1 y2 => q _ H3 (m2.trans m3) ⟨y, rfl, by omega, y2⟩⟩⟩
/-- the other texts: one loosely, the rest otherwise -/
def Toth (pu : Option Addr) : TP := fun v H => ∃ l x0 y1 ys, v = .ref l ∧ pu ≠ some l ∧ H l = some (.lst (x0 :: y1 :: ys)) ∧ ys.length ≤ 4 ∧ Tq 800000 x0 H ∧ Tq 40000 y1 H ∧ ∀ y ∈ ys, Tq 40000 y H
instance sb_Toth : Sb K pu (Toth pu) := ⟨fun v H H' t m => by
  obtain ⟨l, x0, y1, ys, rfl, np, g, hl, t0, t1, ty⟩ := t
  exact ⟨l, x0, y1, ys, rfl, np, m.ox _ _ np g, hl, t0, t1, ty⟩⟩
theorem gv_oth (h1 : Gv pu ta σ H (Tl pu (Tq 800000) 1 1)) (h2 : Gv pu tb σ H (Tl pu (Tq 40000) 5 5)) : Gv pu (tOp rCat ta tb) σ H (Toth pu) :=
  gv_op (sb_Tl (K := [])) h1 h2 fun x y H2 Q m t1 t2 q => by
    obtain ⟨p, xs, rfl, e1, e2, e3, e4, e5⟩ := t1
    obtain ⟨r, ys, rfl, f1, f2, f3, f4, f5⟩ := t2
    refine ⟨p, r, xs, ys, rfl, rfl, e2, f2, sz (by omega), fun p' hp => ?_⟩
    match xs, ys, e3, e4, f3, f4, e5, f5 with
    | [x0], y1 :: zs, _, _, f3, f4, e5, f5 =>
      exact q _ _ (m.ex (Ex.new hp)) ⟨p', x0, y1, zs, rfl, ne_fresh m hp, upd_same, by rw [List.length_cons] at f4; omega, e5 x0 List.mem_cons_self, f5 y1 List.mem_cons_self, fun y hy => f5 y (List.mem_cons_of_mem _ hy)⟩
    | [x0], [], _, _, f3, _, _, _ => simp at f3
    | [], _, e3, _, _, _, _, _ => simp at e3
    | _ :: _ :: _, _, _, e4, _, _, _, _ => simp at e4
theorem gv_oth1 (h : Gv pu te σ H (Toth pu)) : Gv pu (tOp (rIxL K) te (tC (.int 1))) σ H (Tq 40000) := fun H1 m Q q => h H1 m _ fun v H2 m2 t => by
  obtain ⟨l, x0, y1, ys, rfl, np, g, hl, t0, t1, ty⟩ := t
  exact ⟨l, _, 1, y1, rfl, rfl, sq_of g, L2.atI_nat (j := 1) rfl, q _ H2 m2 t1⟩
theorem gv_othL (h : Gv pu te σ H (Toth pu)) : Gv pu te σ H (Tl pu (Tq 800000) 0 6) := h.imp fun v H1 _ t => by
  obtain ⟨l, x0, y1, ys, rfl, np, g, hl, t0, t1, ty⟩ := t
  refine ⟨l, _, rfl, np, g, Nat.zero_le _, by rw [List.length_cons, List.length_cons]; omega, fun x hx => ?_⟩
  rcases List.mem_cons.mp hx with rfl | hx
  · exact t0
  · rcases List.mem_cons.mp hx with rfl | hx
    · exact tq_le (by decide) t1
    · exact tq_le (by decide) (ty x hx)
/-- words_of(..) == words_of(..) -/
theorem ev_words {zb : Str} {E E' : XK} (ha : Ev ta σ H (.str zt)) (hb : Ev tb σ H (.str zb)) (ga : Gd zt) (gb : Gd zb) : Ev (tOp (rEqD K) (tCall (sp_law_words_of K) [] E (tCons ta tNil)) (tCall (sp_law_words_of K) [] E' (tCons tb tNil))) σ H (.bl (decide (kept zt = kept zb))) := fun H1 e Q q =>
  ha H1 e _ fun H2 e2 => ⟨zt, rfl, ga, fun p H3 e3 w3 => hb H3 ((e.trans e2).trans e3) _ fun H4 e4 => ⟨zb, rfl, gb, fun p2 H5 e5 w5 => by
    have d1 := (w3.ex (e4.trans e5)).dp (K := K)
    have d2 := w5.dp (K := K)
    refine ⟨_, _, d1, d2, sh_words (ok_kept ga), sh_words (ok_kept gb), ?_⟩
    rw [eqv_words]
    exact q H5 (((e2.trans e3).trans e4).trans e5)⟩⟩
end
end
end Pk
set_option Elab.async false
set_option linter.all false
set_option maxRecDepth 100000
set_option maxHeartbeats 4000000
namespace Pk
open PySem PySem.Spec PyProof.Rows L2 Evl
def lastZ : Str := "para  -   a"
def lastR : List Row := [[.s "para", .s "-", .t ["a"]]]
theorem last_read : readT lastZ = some lastR := by decide +kernel
theorem last_stand : standM lastR = true := by decide +kernel
section
variable {P : Program} {w : World} {K : PySem.W.Frag} {mg : Str → Option Value} {base : Heap}
def sp_law (K : PySem.W.Frag) : Sp := fun vs H Q _ => ∃ (a : Addr) (ns : List Int), vs = [.ref a] ∧ SqL K H a (ns.map V.int) ∧ ns.length ≤ 63 ∧ ∀ H', Q (.bl true) H'
-- slots: 0 _law_script, 1 _law_k, 2 _law_purse_here, 3 _law_verse, 4 _law_part, 5 _law_others, 6 _law_turn, 7 _law_good, 8 _law_sheet, 9 _law_other, 10 _law_mate, 11 _law_alike
theorem SC_law : FnScope ["_law_script", "_law_k", "_law_purse_here", "_law_verse", "_law_part", "_law_others", "_law_turn", "_law_good", "_law_sheet", "_law_other", "_law_mate", "_law_alike"] ["_law_script"] (defScope (top 91)) := ⟨rfl, rfl, rfl, by decide +kernel, rfl, by decide +kernel, by decide +kernel⟩
theorem ok_law (T : Txt w K mg) {f : Addr} {fd : FuncData} (F : FunD K "law" "law" (defArgs (top 91)) (defBody (top 91)) (defScope (top 91)) [] [] f fd) : FnOk P w K mg base CX0 15 f fd ["_law_script"] (sp_law K) := by
  refine F.ok SC_law (fun vs H Q E h => by obtain ⟨v, ns, rfl, _⟩ := h; rfl) fun cdv A outer s H vs Q E hr h => ?_
  obtain ⟨a, ns, rfl, hs, hn, k⟩ := h
  refine ⟨_, PSs.nox (pss_cons (ps_for PassesOwn.never rfl (pi_range1 rfl T.f_range (pa_cons (pe_callB (call_max2 rfl) rfl T.f_max boot_max (pa_cons pe_int (pa_cons (pe_callB (call_min2 rfl) rfl T.f_min boot_min (pa_cons pe_int (pa_cons (pe_callB call_len_seq rfl T.f_len boot_len (pa_cons (pv 0) pa_nil)) pa_nil))) pa_nil))) pa_nil)) (pg_name (i := 1) SC_law.nd rfl (Or.inl rfl))
        (pss_cons (ps_set (i := 2) SC_law.nd rfl (Or.inr rfl) (pc (cl_law_purse T) hr (by decide) rfl (pa_cons (pc (cl_law_cell T) hr (by decide) rfl (pa_cons (pv 0) (pa_cons (pv 1) pa_nil))) pa_nil)))
        (pss_cons (ps_set (i := 3) SC_law.nd rfl (Or.inr rfl) (pe_join pe_str (pe_lc (own := [("_law_part", 4)]) (g := gName 4) (tt := tYes) rfl SC_law.nd (pi_tup (pe_slice sl_tupA (pc (cl_law_standing T) hr (by decide) rfl (pa_cons (pv 2) (pa_cons (pe_op op_add pe_int (pc (cl_law_pick T) hr (by decide) rfl (pa_cons (pv 2) (pa_cons pe_int pa_nil)))) pa_nil))) po_none (po_some pe_int))) (blkOk_by (own := [("_law_part", 4)]) (N := ["_law_script", "_law_k", "_law_purse_here", "_law_verse", "_law_part", "_law_others", "_law_turn", "_law_good", "_law_sheet", "_law_other", "_law_mate", "_law_alike"]) (sc := defScope (top 91)) (by decide +kernel)) (fun _ _ _ _ _ => (pg_name (i := 4) SC_law.nd rfl (Or.inl rfl))) (fun _ _ _ _ _ => pts_nil) (fun _ _ _ _ _ => (pc (cl_law_line_of T) hr (by decide) rfl (pa_cons (pv 4) pa_nil))))))
        (pss_cons (ps_set (i := 5) SC_law.nd rfl (Or.inl rfl) (pe_op op_cat (pe_lst (pa_cons (pc (cl_law_loosely T) hr (by decide) rfl (pa_cons (pv 2) (pa_cons (pv 3) pa_nil))) pa_nil)) (pe_lc (own := [("_law_turn", 6)]) (g := gName 6) (tt := tYes) rfl SC_law.nd (pi_range1 rfl T.f_range (pa_cons pe_int pa_nil)) (blkOk_by (own := [("_law_turn", 6)]) (N := ["_law_script", "_law_k", "_law_purse_here", "_law_verse", "_law_part", "_law_others", "_law_turn", "_law_good", "_law_sheet", "_law_other", "_law_mate", "_law_alike"]) (sc := defScope (top 91)) (by decide +kernel)) (fun _ _ _ _ _ => (pg_name (i := 6) SC_law.nd rfl (Or.inl rfl))) (fun _ _ _ _ _ => pts_nil) (fun _ _ _ _ _ => (pc (cl_law_otherwise T) hr (by decide) rfl (pa_cons (pv 2) (pa_cons (pv 3) pa_nil)))))))
        (pss_cons (ps_asg (pc (cl_law_one_form T) hr (by decide) rfl (pa_cons (pv 3) pa_nil)) (pg_tup (n := 2) rfl (pgs_cons (pg_name (i := 7) SC_law.nd rfl (Or.inl rfl)) (pgs_cons (pg_name (i := 8) SC_law.nd rfl (Or.inl rfl)) pgs_nil))))
        (pss_cons (ps_if (pt_not (pt_val (pv 7))) (pss_one (ps_ret pe_bl)) pss_nil)
        (pss_one (ps_for PassesOwn.never rfl (pi_list (pe_op op_cat (pv 5) (pe_lst (pa_cons (pc (cl_law_loosely T) hr (by decide) rfl (pa_cons (pv 2) (pa_cons (pe_ix ix_list (pv 5) pe_int (fun _ _ => rfl)) pa_nil))) pa_nil)))) (pg_name (i := 9) SC_law.nd rfl (Or.inl rfl))
          (pss_cons (ps_asg (pc (cl_law_one_form T) hr (by decide) rfl (pa_cons (pv 9) pa_nil)) (pg_tup (n := 2) rfl (pgs_cons (pg_name (i := 7) SC_law.nd rfl (Or.inl rfl)) (pgs_cons (pg_name (i := 10) SC_law.nd rfl (Or.inl rfl)) pgs_nil))))
          (pss_cons (ps_if (pt_not (pt_val (pv 7))) (pss_one (ps_ret pe_bl)) pss_nil)
          (pss_one (ps_if (PW.pt (pw_and (pt_cmpR op_notN (pv 8) pe_non (nomark _)) (pw_and1 (pt_cmpR op_notN (pv 10) pe_non (nomark _))))) (pss_cons (ps_set (i := 11) SC_law.nd rfl (Or.inl rfl) (pe_cmpR (op_eqD hr.units) (pc (cl_law_words_of T) hr (by decide) rfl (pa_cons (pv 3) pa_nil)) (pc (cl_law_words_of T) hr (by decide) rfl (pa_cons (pv 9) pa_nil)) (nomark _)))
            (pss_one (ps_if (PW.pt (pw_or (pt_cmpR op_ne (pe_cmpR (op_eqOwn (me___eq__ T) hr (by decide)) (pv 8) (pv 10) (nomark _)) (pv 11) (nomark _)) (pw_or (pt_cmpR op_ne (pe_cmpR op_eq (pe_callTy (call_strOwn (me___str__ T) hr (by decide)) rfl T.f_str boot_str (pa_cons (pv 8) pa_nil)) (pe_callTy (call_strOwn (me___str__ T) hr (by decide)) rfl T.f_str boot_str (pa_cons (pv 10) pa_nil)) (nomark _)) (pv 11) (nomark _)) (pw_or1 (pt_cmpR op_eq (pe_cmpR (op_neOwn (me___eq__ T) T.ne_Text T.sub_Text hr (by decide)) (pv 10) (pv 8) (nomark _)) (pv 11) (nomark _)))))) (pss_one (ps_ret pe_bl)) pss_nil))) pss_nil))))))))))))
      (pss_one (ps_ret (pe_cmpR (op_eqD hr.units) (pe_fld (pcN (cl_read_text T) hr (by decide) rfl (pa_cons pe_str pa_nil)) rfl) (pe_fld (pmk (mk_Text T) hr (by decide) rfl (pa_cons (pe_tup (pa_cons (pe_tup (pa_cons pe_str (pa_cons pe_str (pa_cons (pe_tup (pa_cons pe_str pa_nil)) pa_nil)))) pa_nil)) pa_nil)) rfl) (nomark _))))), ?_⟩
  refine q_rng (n := if (if (ns.map V.int).length < (4 : Int) then ((ns.map V.int).length : Int) else 4) > 2 then (if (ns.map V.int).length < (4 : Int) then ((ns.map V.int).length : Int) else 4) else 2) (ev_cb (ea2 ev_c (ev_cb (ea2 ev_c (ev_cb (ea1 (ev_var rfl)) (rc_lenL hs))) fun H1 e1 Q q => ⟨_, _, rfl, q H1 (Ex.refl _)⟩)) fun H1 e1 Q q => ⟨_, _, rfl, q H1 (Ex.refl _)⟩) (by split <;> omega) (by split <;> (try split) <;> omega)
    (fun i σ' H' => Ex H H' ∧ ∃ o1 o2 o3 o5 o7 o8 o9 o10 o11, σ' = [some (.ref a), o1, o2, o3, none, o5, none, o7, o8, o9, o10, o11]) (fun H1 e1 => ⟨e1, _, _, _, _, _, _, _, _, _, rfl⟩) (fun i σ' H1 hi q => ?_) (fun σ' H1 q => ?_)
  · obtain ⟨e1, o1, o2, o3, o5, o7, o8, o9, o10, o11, rfl⟩ := q
    have hi4 : i ≤ 100 := by
      revert hi
      split <;> (try split) <;> omega
    refine ⟨_, rfl, _, rfl, a, ns, i, rfl, ex_l e1 hs, by omega, hi4, fun c H2 s2 => ⟨c, rfl, fun x y z p H3 hp e3 h3 => ?_⟩⟩
    have e13 : Ex H1 H3 := Ex.trans s2 e3
    have hp1 : H1 p = none := fresh_back s2 hp
    have M : Mo (some p) H3 H3 := mo_refl ⟨x, y, z, h3⟩
    clear x y z h3
    refine y_asg (T := Tq 39970) M (gv_join (a := ("\n" : Str)) (n := 570) (lo := 0) (hi := 70) (by decide +kernel) (gv_lcTup (K := K) (e0 := Trow K) (e := Tq 570) (lo := 0) (hi := 70) (gv_cut70 (K := K) (e := Trow K) inferInstance (gv_callP (es := fun _ => [Ti 3 11]) (T := fun _ => Tt K (Trow K) 0 410) rfl (gva_cons (K := K) inferInstance (gv_iw (gv_add (gv_int (i := 3)) (gv_pickC (K := K) (d := 9) rfl (by decide) (by decide))) (by decide) (by decide)) gva_nil))) (by decide) inferInstance inferInstance (fun x => rfl) fun x H0 m0 h0 => gv_callN (es := [Trow K]) (T := Tq 570) (gva_cons (K := K) inferInstance (gv_v (K := K) rfl h0) gva_nil)) (by decide)) fun vv H4 m4 tv => ?_
    obtain ⟨z, rfl, z1, z2⟩ := tv
    have tz : ∀ {H : Hp}, Tq 39970 (.str z) H := fun {H} => ⟨z, rfl, z1, z2⟩
    have gz : Gd z := ⟨by omega, z2⟩
    refine y_asg (T := Toth (some p)) m4.r (gv_oth (gv_lst (K := K) (e := Tq 800000) (n := 1) inferInstance (by decide) (gve_cons (K := K) inferInstance (gv_loosely (K := K) (n := 39970) rfl (gv_v (K := K) rfl tz) (by decide) (by decide)) gve_nil)) (gv_lcR (K := K) (e := Tq 40000) (a := 5) (b := 5) gv_int (by decide) (by decide) inferInstance (fun x => rfl) fun j H0 m0 _ _ => gv_otherwise (K := K) (n := 39970) rfl (gv_v (K := K) rfl tz) (by decide) (by decide))) fun vo H5 m5 to => ?_
    refine q_form (K := K) (zt := z) (ev_var rfl) gz (by omega) fun vs H6 e6 sh6 => ?_
    refine q_when (b := false) (et_not (a := true) (et_B (ev_var rfl))) (fun h => by cases h) fun _ H7 e7 => ?_
    have m57 : Mo (some p) H5 H7 := m5.ex (e6.trans e7)
    have to7 := (sb_Toth (K := K) (pu := some p)).st _ _ _ to m57
    refine s_forE (gv_lw (e := Tq 800000) (e' := Tq 800000) (a := 1) (b := 7) (c := 0) (d := 7) (gv_cat (K := K) (e := Tq 800000) (a := 0) (b := 6) (c := 1) (d := 1) inferInstance (gv_othL (gv_v (K := K) (i := 5) rfl to7)) (gv_lst (K := K) (e := Tq 800000) (n := 1) inferInstance (by decide) (gve_cons (K := K) inferInstance (gv_loosely (K := K) (n := 40000) rfl (gv_oth1 (K := K) (gv_v (K := K) (i := 5) rfl to7)) (by decide) (by decide)) gve_nil)) (by decide)) (by decide) (by decide) (fun _ _ h => h) H7 m57.r _ fun v H8 m8 t => ?_)
    obtain ⟨pl, xs, rfl, npl, gl, _, _, hx⟩ := t
    have sh8 := (sh6.ex e7).mo m8
    have e18 : Ex H1 H8 := mo_exF hp1 e13 (((m4.trans m5).trans m57).trans m8)
    refine s_forW walk_list (hwi_list ev_c (sq_of gl)) (fun j σ' H' => Ex H8 H' ∧ ∃ o7 o9 o10 o11, σ' = [some (.ref a), some (.int i), some (.ref p), some (.str z), none, some vo, none, o7, some vs, o9, o10, o11]) (fun H9 e9 => ⟨e9, _, _, _, _, rfl⟩) (fun j σ' H' _ q => sq_of (q.1 _ _ gl)) (fun j x σ' H9 H10 hj q y => ?_) (fun σ' H9 q => ?_)
    · obtain ⟨e9, o7', o9', o10', o11', rfl⟩ := q
      obtain ⟨rfl, y⟩ := y
      obtain ⟨yt, rfl, y1, y2⟩ := hx x (List.mem_of_getElem? y)
      have gy : Gd yt := ⟨by omega, y2⟩
      show tSeq _ _ _ _ _
      refine q_form (K := K) (zt := yt) (ev_var rfl) gy (by omega) fun vm H11 e11 shm => ?_
      refine q_when (b := false) (et_not (a := true) (et_B (ev_var rfl))) (fun h => by cases h) fun _ H12 e12 => ?_
      have sh12 := sh8.ex ((e9.trans e11).trans e12)
      have shm12 := shm.ex e12
      have eo : Ex H8 H12 := (e9.trans e11).trans e12
      rcases sh12 with ⟨rfl, _⟩ | ⟨ra, aa, rfl, ha, ta⟩
      · exact s_when (b := false) (et_and0 (et_test (ev_op (ev_var (v := .non) rfl) ev_c rv_isn))) (fun h => by cases h) fun _ H13 e13 => ⟨eo.trans e13, _, _, _, _, rfl⟩
      rcases shm12 with ⟨rfl, _⟩ | ⟨rb, ab, rfl, hb, tb⟩
      · exact s_when (b := false) (et_and (a := true) (et_is (et_test (ev_op (ev_var (v := .ref aa) rfl) ev_c rv_isn)) (by rw [decide_eq_false (fun e => by cases e)]; rfl)) fun _ => et_is (et_test (ev_op (ev_var (v := .non) rfl) ev_c rv_isn)) (by rw [decide_eq_true rfl]; rfl)) (fun h => by cases h) fun _ H13 e13 => ⟨eo.trans e13, _, _, _, _, rfl⟩
      refine s_when (b := true) (et_and (a := true) (et_is (et_test (ev_op (ev_var (v := .ref aa) rfl) ev_c rv_isn)) (by rw [decide_eq_false (fun e => by cases e)]; rfl)) fun _ => et_is (et_test (ev_op (ev_var (v := .ref ab) rfl) ev_c rv_isn)) (by rw [decide_eq_false (fun e => by cases e)]; rfl)) (fun _ H13 e13' => ?_) (fun h => by cases h)
      have oka : RdOk z ra := ⟨ha, gz, by omega⟩
      have okb : RdOk yt rb := ⟨hb, gy, by omega⟩
      refine q_asg (ev_words (K := K) (zt := z) (zb := yt) (ev_var rfl) (ev_var rfl) gz gy) fun H14 e14 => ?_
      have ta14 := ta.ex (e13'.trans e14)
      have tb14 := tb.ex (e13'.trans e14)
      have r1 : decide (ra = rb) = decide (kept z = kept yt) := decide_eq_decide.mpr (rows_alike ha hb)
      have r2 : decide (V.str (form ra) = V.str (form rb)) = decide (kept z = kept yt) := decide_eq_decide.mpr (by rw [V.str.injEq]; exact forms_alike ha hb)
      have r3 : decide (rb = ra) = decide (kept z = kept yt) := decide_eq_decide.mpr ⟨fun h => (rows_alike ha hb).mp h.symm, fun h => ((rows_alike ha hb).mpr h).symm⟩
      refine s_when (b := false) (et_is (et_or (et_test (ev_op (ev_op (ev_var (v := .ref aa) rfl) (ev_var (v := .ref ab) rfl) (rv_eqOwn (P := P) (w := w) ta14 tb14)) (ev_var rfl) (rv_ne rfl))) fun _ => et_or (et_test (ev_op (ev_op (ev_strOwn (P := P) (w := w) (ev_var (v := .ref aa) rfl) ta14 oka) (ev_strOwn (P := P) (w := w) (ev_var (v := .ref ab) rfl) tb14 okb) (rv_eq rfl)) (ev_var rfl) (rv_ne rfl))) fun _ => et_test (ev_op (ev_op (ev_var (v := .ref ab) rfl) (ev_var (v := .ref aa) rfl) (rv_neOwn (P := P) (w := w) tb14 ta14)) (ev_var rfl) (rv_eq rfl))) ?_) (fun h => by cases h) fun _ H15 e15 => ⟨((eo.trans e13').trans e14).trans e15, _, _, _, _, rfl⟩
      rw [r1, r2, r3]
      cases decide (kept z = kept yt) <;> rfl
    · obtain ⟨e9, o7', o9', o10', o11', rfl⟩ := q
      exact ⟨(e1.trans e18).trans e9, _, _, _, _, _, _, _, _, _, rfl⟩
  · obtain ⟨e1, o1, o2, o3, o5, o7, o8, o9, o10, o11, rfl⟩ := q
    refine ⟨lastZ, rfl, ⟨by decide, by decide +kernel⟩, fun rows a1 H2 h2 e2 t2 => ?_, fun h => by rw [last_read] at h; cases h⟩
    rw [last_read] at h2
    cases h2
    obtain ⟨dx, ba, hat, hra⟩ := t2
    refine ⟨a1, _, dx, _, .ref ba, rfl, hat, T.k_Text, T.no_Text _ (by decide), rfl, ?_⟩
    refine make_Text (R := fun v H' => ∃ aa, v = .ref aa ∧ TextAt K H' lastR aa ∧ Ex H2 H') (fun Q q => ?_) _ fun v H5 h5 => ?_
    · refine ⟨(by show (1 : Nat) ≤ sizeLine; decide), fun p1 hp1 => ⟨(by show (3 : Nat) ≤ sizeLine; decide), fun p2 hp2 => ⟨(by show (1 : Nat) ≤ sizeLine; decide), fun p3 hp3 => q _ _ ⟨p3, lastR, rfl, ((Ex.new hp1).trans (Ex.new hp2)).trans (Ex.new hp3), ⟨[p2], st_of upd_same, .cons ⟨_, ex_t (Ex.new hp3) (st_of upd_same), .cons (.s ⟨by decide, by decide +kernel⟩) (.cons (.s ⟨by decide, by decide +kernel⟩) (.cons (.t (ex_t ((Ex.new hp2).trans (Ex.new hp3)) (st_of upd_same)) (fun x hx => ?_) (by decide)) .nil))⟩ .nil⟩, last_stand, by decide, fun aa H6 e6 t6 => ⟨aa, rfl, t6, (((Ex.new hp1).trans (Ex.new hp2)).trans (Ex.new hp3)).trans e6⟩⟩⟩⟩⟩
      rw [List.mem_singleton.mp hx]
      exact ⟨by decide, by decide +kernel⟩
    · obtain ⟨aa, rfl, ⟨dy, bb, hbt, hrb⟩, e5⟩ := h5
      refine ⟨aa, _, dy, _, .ref bb, rfl, hbt, T.k_Text, T.no_Text _ (by decide), rfl, ?_⟩
      have r1 : RowsAt K H5 lastR ba := by
        obtain ⟨as, hq, hp⟩ := hra
        exact ⟨as, ex_t e5 hq, Paired.mono (fun r a h => h.mono e5) hp⟩
      obtain ⟨d1, s1⟩ := r1.dp
      obtain ⟨d2, s2⟩ := hrb.dp
      refine ⟨_, _, d1, d2, s1, s2, ?_⟩
      have e6 : PyData.eqv (drows lastR) (drows lastR) = true := (eqv_drows lastR lastR).trans (decide_eq_true rfl)
      rw [e6]
      exact k H5
end
end Pk
set_option Elab.async false
set_option linter.all false
set_option maxRecDepth 100000
set_option maxHeartbeats 4000000
/-! The head's facts, as Bools over a part of the heap. -/
namespace Pk
open PySem PySem.Spec PyProof.Rows L2
/-- at a a tuple of these -/
def tupAB (K : PySem.W.Frag) (a : Addr) (vs : List He.Dv) : Bool := match K.lookup a with
  | some ⟨.type c, _, .seq its _, _⟩ => decide (c = "tuple") && (decide (its.size ≤ sizeLine) && He.relAll (vs.map (He.Dv.v K)) its.toList)
  | _ => false
theorem tupAB_ok {K : PySem.W.Frag} {a : Addr} {vs : List He.Dv} (h : tupAB K a vs = true) (H : Hp) : SqT K H a (vs.map (He.Dv.v K)) := by
  unfold tupAB at h
  cases q : K.lookup a with
  | none =>
    rw [q] at h
    cases h
  | some o =>
    obtain ⟨oc, od, dt, osl⟩ := o
    rw [q] at h
    cases oc with
    | type c =>
      cases dt with
      | seq its n =>
        obtain ⟨h1, h2⟩ := He.ba (show (decide (c = "tuple") && (decide (its.size ≤ sizeLine) && He.relAll (vs.map (He.Dv.v K)) its.toList)) = true from h)
        obtain ⟨h3, h4⟩ := He.ba h2
        exact .inr ⟨_, its, n, q, congrArg Value.type (of_decide_eq_true h1), rfl, of_decide_eq_true h3, He.relAll_ok h4⟩
      | _ => cases h
    | _ => cases dt <;> cases h
def refB (u : Value) (f : Addr → Bool) : Bool := match u with
  | .ref a => f a
  | _ => false
theorem refB_ok {u : Value} {f : Addr → Bool} (h : refB u f = true) : ∃ a, u = .ref a ∧ f a = true := by
  cases u with
  | ref a => exact ⟨a, rfl, h⟩
  | _ => cases h
def entB {α : Type} (tab : List (Str × α)) (ok : α → Value → Bool) (e : DictEntry) : Bool := match e.key with
  | .str x _ => (match tab.lookup x with
    | some y => ok y e.val
    | none => false)
  | _ => false
def kdB {α : Type} (K : PySem.W.Frag) (d : Addr) (tab : List (Str × α)) (ok : α → Value → Bool) : Bool := match K.lookup d with
  | some ⟨_, _, .dict es _, _⟩ => es.toList.all (entB tab ok) && tab.all fun q => es.toList.any fun e => e.key.isStr q.1
  | _ => false
theorem entB_ok {α : Type} {tab : List (Str × α)} {ok : α → Value → Bool} {e : DictEntry} (h : entB tab ok e = true) : ∃ x t y, e.key = .str x t ∧ tab.lookup x = some y ∧ ok y e.val = true := by
  unfold entB at h
  split at h
  · rename_i x t hk
    split at h
    · rename_i y hy
      exact ⟨x, t, y, hk, hy, h⟩
    · cases h
  · cases h
theorem kdB_ok {α : Type} {K : PySem.W.Frag} {d : Addr} {tab : List (Str × α)} {ok : α → Value → Bool} {R : α → Value → Prop} (h : kdB K d tab ok = true) (hok : ∀ y u, ok y u = true → R y u) : KD K d tab R := by
  unfold kdB at h
  split at h
  · rename_i oc od es n sl hd
    obtain ⟨h1, h2⟩ := He.ba h
    intro z
    have hns : PySem.W.nsIn K d z = (match es.toList.find? (·.key.isStr z) with
      | some e => some (some e.val)
      | none => if es.toList.any (·.refKey) then none else some none) := by
      unfold PySem.W.nsIn
      rw [hd]
      rfl
    cases hf : es.toList.find? (·.key.isStr z) with
    | some e =>
      rw [hf] at hns
      obtain ⟨x, t, y, hk, hy, ho⟩ := entB_ok (List.all_eq_true.mp h1 e (List.mem_of_find?_eq_some hf))
      have hz := List.find?_some hf
      rw [hk] at hz
      have ez : x = z := by
        have h3 : (x == z) = true := hz
        exact eq_of_beq h3
      subst ez
      refine ⟨_, hns, ?_⟩
      rw [hy]
      exact ⟨_, rfl, hok _ _ ho⟩
    | none =>
      rw [hf] at hns
      have hr : es.toList.any (·.refKey) = false := by
        rw [List.any_eq_false]
        intro e he
        obtain ⟨x, t, y, hk, _⟩ := entB_ok (List.all_eq_true.mp h1 e he)
        simp [DictEntry.refKey, hk]
      have hns2 : PySem.W.nsIn K d z = some none := by
        rw [hns]
        show (if es.toList.any (·.refKey) then none else some none) = some none
        rw [hr]
        rfl
      refine ⟨_, hns2, ?_⟩
      cases hl : tab.lookup z with
      | none => rfl
      | some y =>
        have h3 := List.all_eq_true.mp h2 _ (lookup_mem hl)
        obtain ⟨e, he, hs⟩ := List.any_eq_true.mp h3
        have h4 := List.find?_eq_none.mp hf e he
        exact absurd hs h4
  · cases h
def oexB (K : PySem.W.Frag) (C : Addr) : Bool := match K.lookup C with
  | some ⟨.type "type", _, .cls cd, sl⟩ => (match cd.mro, sl.toList with
    | .ref C' :: bm, [_, _, _, _, some (.builtin n), _] => C' == C && (n == "ValueError.__new__" && (!cd.hasDel && (cd.hasDict && PySem.HandSPX.refsVE bm)))
    | _, _ => false)
  | _ => false
theorem oexB_ok {K : PySem.W.Frag} {C : Addr} (q : oexB K C = true) : ∃ nm q N bs bm sn sub ab col dd k0 k1 k2 k3 k5, K.lookup C = some (excClassObj nm q C N bs bm true sn sub ab col dd k0 k1 k2 k3 k5 "ValueError.__new__") ∧ PySem.HandSPX.refsVE bm = true := by
  unfold oexB at q
  split at q
  · rename_i dd cd sl ho
    split at q
    · rename_i C' bm k0 k1 k2 k3 n k5 hm hs
      simp only [Bool.and_eq_true, beq_iff_eq, Bool.not_eq_true'] at q
      obtain ⟨rfl, rfl, hdel, hd, hr⟩ := q
      obtain ⟨nm, bs, mro, ns, qn, hdd, sn, sub, ab, col, del⟩ := cd
      dsimp only at hm hdel hd
      subst hm hdel hd
      have hsl : sl = #[k0, k1, k2, k3, some (.builtin "ValueError.__new__"), k5] := by
        obtain ⟨l⟩ := sl
        simp only at hs
        rw [hs]
      subst hsl
      exact ⟨nm, qn, ns, bs, bm, sn, sub, ab, col, dd, k0, k1, k2, k3, k5, ho, hr⟩
    · cases q
  · cases q
def clsAtB (K : PySem.W.Frag) (C : Addr) : Bool := match PySem.W.findCls K (.ref C) (.type "type") "__init__" with
  | some (.val v) => decide (v = .builtin "ValueError.__init__")
  | _ => false
theorem clsAtB_ok {K : PySem.W.Frag} {C : Addr} (h : clsAtB K C = true) : PySem.W.findCls K (.ref C) (.type "type") "__init__" = some (.val (.builtin "ValueError.__init__")) := by
  unfold clsAtB at h
  split at h
  · rename_i v hv
    rw [hv, of_decide_eq_true h]
  · cases h

def fa0 : List He.Fa := [.free "isinstance",
  .free "len",
  .free "all",
  .free "any",
  .free "max",
  .free "min",
  .free "int",
  .free "str",
  .free "bool",
  .free "tuple",
  .free "list",
  .free "range",
  .free "enumerate",
  .free "zip",
  .free "ValueError",
  .int "MOST_NAME" 8,
  .int "MOST_WORD" 12,
  .int "MOST_TOKENS" 40,
  .int "MOST_LINES" 8,
  .int "MOST_WHENS" 3,
  .int "MOST_FIGURES" 9,
  .int "MOST_ROWS" 80,
  .str "SMALL" sSmall,
  .str "FIGURES" sFig,
  .str "SIGNS" sSigns,
  .str "NO_STYLE" "-",
  .str "PASSED" dots,
  .glo "BRACKETS",
  .glo "ALIGNS",
  .glo "COUNTED"]
def fa1 : List He.Fa := [.glo "WAYS",
  .glo "SORTS",
  .glo "KINDS",
  .glo "TOKENED",
  .glo "PAIRS",
  .glo "CHECKS",
  .glo "NUMBERS",
  .glo "FORMS",
  .glo "Shape",
  .cls "Shape",
  .mkr "Shape",
  .noat "Shape" "ruled",
  .noat "Shape" "begun",
  .noat "Shape" "whens",
  .noat "Shape" "columns",
  .noat "Shape" "lines",
  .noat "Shape" "cover",
  .meth "Shape" "takes",
  .meth "Shape" "takes_rule",
  .meth "Shape" "takes_line",
  .meth "Shape" "placed",
  .meth "Shape" "is_open",
  .glo "Text",
  .cls "Text",
  .mkr "Text",
  .noat "Text" "rows",
  .meth "Text" "__eq__",
  .meth "Text" "__str__",
  .glo "NoText",
  .glo "TongueError"]
def fa2 : List He.Fa := [.noat "NoText" "row",
  .exm "NoText" "NoText" true]
def fa : List He.Fa := fa0 ++ fa1 ++ fa2
def exs0 (K : PySem.W.Frag) : List Bool := [tupAB K (He.ga K "BRACKETS") ((brs : List Str).map He.Dv.str),
  tupAB K (He.ga K "ALIGNS") ((aligns : List Str).map He.Dv.str),
  tupAB K (He.ga K "COUNTED") ((counteds : List Str).map He.Dv.str),
  tupAB K (He.ga K "WAYS") ((ways : List Str).map He.Dv.str),
  tupAB K (He.ga K "SORTS") ((sorts : List Str).map He.Dv.str),
  tupAB K (He.ga K "KINDS") ((kinds : List Str).map He.Dv.str),
  tupAB K (He.ga K "TOKENED") ((tokened : List Str).map He.Dv.str),
  kdB K (He.ga K "PAIRS") pairTab fun y u => He.relB (.str y) u,
  kdB K (He.ga K "NUMBERS") numTab fun y u => refB u fun a => tupAB K a [.int y.1, .int y.2],
  kdB K (He.ga K "FORMS") formTab fun y u => refB u fun a => tupAB K a (y.map He.Dv.str),
  kdB K (He.ga K "CHECKS") chkNames fun y u => decide (u = .ref (He.ga K y)),
  oexB K (He.ga K "NoText"),
  He.eqO (PySem.W.findIn K (.ref (He.ga K "NoText")) "__setattr__") (some (some (.builtin "object.__setattr__"))),
  decide (PySem.W.subIn K (.ref (He.ga K "NoText")) (.type "BaseException") = some true),
  decide (PySem.W.typeIn K (.ref (He.ga K "NoText")) = some (.type "type")),
  PySem.W.keepIn K (.ref (He.ga K "NoText")),
  He.eqO (PySem.W.findIn K (.ref (He.ga K "NoText")) "__init__") (some (some (.ref (He.ma K (He.ga K "NoText") "__init__")))),
  decide (PySem.W.typeIn K (.ref (He.ma K (He.ga K "NoText") "__init__")) = some (.type "function")),
  He.eqO (PySem.W.specialIn K (.ref (He.ga K "TongueError")) "__getattribute__") (some (some (.builtin "type.__getattribute__"))),
  PySem.W.readsIn K (He.ga K "TongueError") (.type "type"),
  clsAtB K (He.ga K "TongueError"),
  He.eqO (PySem.W.findIn K (.ref (He.ga K "Text")) "__ne__") (some (some (.builtin "object.__ne__"))),
  decide (PySem.W.subIn K (.ref (He.ga K "Text")) (.type "object") = some true),
  He.eqO (PySem.W.findIn K (.ref (He.ga K "Text")) "__class__") (some (some (.builtin "object.__class__"))),
  He.eqO (PySem.W.specialIn K (.builtin "object.__class__") "__get__") (some (some (.builtin "getset_descriptor.__get__"))),
  decide (PySem.W.takesIn K (.builtin "object.__class__") = some true),
  decide (PySem.W.mroIn K (He.ga K "Text") (.type "object") = some true),
  decide (PySem.W.kitOne K (.ref (He.ga K "Text")) (.ref (He.ga K "Text")) = some true),
  defs.all fun d => d.at_.2.isSome || He.eqO (PySem.W.nsIn K mainGlobals d.at_.1) (some (some (.ref (He.fAd K d.at_))))]
def exs (K : PySem.W.Frag) : List Bool := exs0 K
def tabs : List He.Tab := [(fun K => He.ga K "PAIRS", pairTab.map (·.1)), (fun K => He.ga K "CHECKS", chkNames.map (·.1)), (fun K => He.ga K "NUMBERS", numTab.map (·.1)), (fun K => He.ga K "FORMS", formTab.map (·.1))]
def exB (K : PySem.W.Frag) : Bool := (exs K).all id
def loose0 : List Str := ["_wall",
  "TongueError",
  "NoRows",
  "NoText",
  "SMALL",
  "GREAT",
  "FIGURES",
  "SIGNS",
  "MOST_NAME",
  "MOST_WORD",
  "MOST_TOKENS",
  "PAIRS",
  "BRACKETS",
  "is_whole",
  "is_within",
  "is_name",
  "is_word",
  "is_token",
  "first_wrong",
  "is_tokens",
  "is_plain",
  "is_bare",
  "words_in",
  "ALIGNS",
  "COUNTED",
  "WAYS",
  "SORTS",
  "KINDS",
  "NO_STYLE",
  "MOST_LINES"]
def loose1 : List Str := ["MOST_WHENS",
  "MOST_FIGURES",
  "is_style",
  "is_align",
  "is_counted",
  "is_way",
  "is_sort",
  "is_kind",
  "CHECKS",
  "NUMBERS",
  "FORMS",
  "TOKENED",
  "is_part",
  "is_row",
  "has_tokens",
  "row_words",
  "row_text",
  "number_in",
  "part_in",
  "row_in",
  "Shape",
  "MOST_ROWS",
  "first_amiss",
  "Text",
  "PASSED",
  "lines_in",
  "rows_in",
  "read_text",
  "_law_cell",
  "_law_purse"]
def loose2 : List Str := ["_law_pick",
  "_law_one_word",
  "_law_names",
  "_law_tokens",
  "_law_with_note",
  "_law_table",
  "_law_line_of",
  "_law_is_name",
  "_law_is_word",
  "_law_is_token",
  "_law_amiss",
  "_law_whole",
  "_law_are_tokens",
  "_law_is_part",
  "_law_forms",
  "_law_is_row",
  "_law_cell_taken",
  "_law_stood",
  "_law_any_row",
  "_law_standing",
  "_law_words_of",
  "_law_loosely",
  "_law_otherwise",
  "_law_read",
  "_law_one_form"]
def loose : List Str := loose0 ++ loose1 ++ loose2
/-! ### the Hook: names, tables with text keys, one more Bool; the interpreter's own statics lie in the part, too -/
def refsQ (o : Obj) : List Addr := match o.data with
  | .seq its _ => its.toList.flatMap He.refV
  | .dict es _ => es.toList.flatMap fun e => He.refV e.val
  | .func fd => He.refV fd.code ++ (He.refV fd.defaults ++ He.refV fd.kwdefaults)
  | .cls cd => [cd.ns]
  | _ => []
def asQ (g : Addr → Option Obj) : Nat → List Addr → List Addr
  | 0, l => l
  | n + 1, l => l ++ asQ g n (l.flatMap fun a => match g a with
    | some o => refsQ o
    | none => [])
/-- what the module's names reach in n steps (code objects' own parts left out), and the interpreter's statics -/
def asP (g : Addr → Option Obj) (n : Nat) : List Addr := asQ g n [mainGlobals] ++ [cStatics]
abbrev AlP : Type := He.AlT × Bool
def obsP (fa : List He.Fa) (fn : List He.DefD) (ts : List He.Tab) (ex : PySem.W.Frag → Bool) (K : PySem.W.Frag) : AlP := (He.obsT fa fn ts K, ex K)
def valP (fn : List He.DefD) (ts : List He.Tab) (w : World) : AlP := (He.valT fn ts w, true)
def obsPG (n : Nat) (fa : List He.Fa) (fn : List He.DefD) (ts : List He.Tab) (ex : PySem.W.Frag → Bool) (g : Addr → Option Obj) : AlP := obsP fa fn ts ex (He.frG g (asP g n))
def SaysP (fa : List He.Fa) (fn : List He.DefD) (ts : List He.Tab) (ex : PySem.W.Frag → Bool) (w : World) (K : PySem.W.Frag) : Prop := obsP fa fn ts ex K = valP fn ts w
def hookP (n : Nat) (fa : List He.Fa) (fn : List He.DefD) (ts : List He.Tab) (ex : PySem.W.Frag → Bool) : PySem.W.Hook where
  α := AlP
  obs := fun s => obsPG n fa fn ts ex s.heap.get?
  val := fun w => valP fn ts w
  says := fun w h => ∃ K : PySem.W.Frag, K.In h ∧ SaysP fa fn ts ex w K
  of := fun _ _ e => ⟨_, He.frG_in, e⟩
  keeps := fun _ _ _ ⟨K, hK, c⟩ k => ⟨K, PySem.W.Frag.In.keeps hK k, c⟩
theorem obsPG_eq {n : Nat} {fa : List He.Fa} {fn : List He.DefD} {ts : List He.Tab} {ex : PySem.W.Frag → Bool} {g : Addr → Option Obj} {s : Shared} (h : ∀ a, g a = s.heap.get? a) : obsPG n fa fn ts ex g = (hookP n fa fn ts ex).obs s := by
  have e : g = s.heap.get? := funext h
  rw [e] <;> rfl
theorem SaysP.t {fa : List He.Fa} {fn : List He.DefD} {ts : List He.Tab} {ex : PySem.W.Frag → Bool} {w : World} {K : PySem.W.Frag} (c : SaysP fa fn ts ex w K) : He.SaysT fa fn ts w K := congrArg (fun z : AlP => z.1) c
theorem SaysP.d {fa : List He.Fa} {fn : List He.DefD} {ts : List He.Tab} {ex : PySem.W.Frag → Bool} {w : World} {K : PySem.W.Frag} (c : SaysP fa fn ts ex w K) : He.SaysD fa fn K := c.t.d
theorem SaysP.ex {w : World} {K : PySem.W.Frag} (c : SaysP fa defs tabs exB w K) (i : Nat) {b : Bool} (h : (exs K)[i]? = some b) : b = true := by
  have h1 : exB K = true := congrArg (fun z : AlP => z.2) c
  exact List.all_eq_true.mp h1 b (List.mem_of_getElem? h)

theorem txt_of {w : World} {K : PySem.W.Frag} {h : Heap} {mg : Str → Option Value} (X : K.In h) (G : h.Ns mainGlobals mg) (c : SaysP fa defs tabs exB w K) : Txt w K mg where
  f_isinstance := He.free_ok X G (c.d.fact 0 (h := by rfl))
  f_len := He.free_ok X G (c.d.fact 1 (h := by rfl))
  f_all := He.free_ok X G (c.d.fact 2 (h := by rfl))
  f_any := He.free_ok X G (c.d.fact 3 (h := by rfl))
  f_max := He.free_ok X G (c.d.fact 4 (h := by rfl))
  f_min := He.free_ok X G (c.d.fact 5 (h := by rfl))
  f_int := He.free_ok X G (c.d.fact 6 (h := by rfl))
  f_str := He.free_ok X G (c.d.fact 7 (h := by rfl))
  f_bool := He.free_ok X G (c.d.fact 8 (h := by rfl))
  f_tuple := He.free_ok X G (c.d.fact 9 (h := by rfl))
  f_list := He.free_ok X G (c.d.fact 10 (h := by rfl))
  f_range := He.free_ok X G (c.d.fact 11 (h := by rfl))
  f_enumerate := He.free_ok X G (c.d.fact 12 (h := by rfl))
  f_zip := He.free_ok X G (c.d.fact 13 (h := by rfl))
  f_ValueError := He.free_ok X G (c.d.fact 14 (h := by rfl))
  g_MOST_NAME := by
    obtain ⟨t, e⟩ := He.int_ok X G (c.d.fact 15 (h := by rfl))
    exact ⟨_, e, t, rfl⟩
  g_MOST_WORD := by
    obtain ⟨t, e⟩ := He.int_ok X G (c.d.fact 16 (h := by rfl))
    exact ⟨_, e, t, rfl⟩
  g_MOST_TOKENS := by
    obtain ⟨t, e⟩ := He.int_ok X G (c.d.fact 17 (h := by rfl))
    exact ⟨_, e, t, rfl⟩
  g_MOST_LINES := by
    obtain ⟨t, e⟩ := He.int_ok X G (c.d.fact 18 (h := by rfl))
    exact ⟨_, e, t, rfl⟩
  g_MOST_WHENS := by
    obtain ⟨t, e⟩ := He.int_ok X G (c.d.fact 19 (h := by rfl))
    exact ⟨_, e, t, rfl⟩
  g_MOST_FIGURES := by
    obtain ⟨t, e⟩ := He.int_ok X G (c.d.fact 20 (h := by rfl))
    exact ⟨_, e, t, rfl⟩
  g_MOST_ROWS := by
    obtain ⟨t, e⟩ := He.int_ok X G (c.d.fact 21 (h := by rfl))
    exact ⟨_, e, t, rfl⟩
  g_SMALL := by
    obtain ⟨t, e⟩ := He.str_ok X G (c.d.fact 22 (h := by rfl))
    exact ⟨_, e, t, rfl⟩
  g_FIGURES := by
    obtain ⟨t, e⟩ := He.str_ok X G (c.d.fact 23 (h := by rfl))
    exact ⟨_, e, t, rfl⟩
  g_SIGNS := by
    obtain ⟨t, e⟩ := He.str_ok X G (c.d.fact 24 (h := by rfl))
    exact ⟨_, e, t, rfl⟩
  g_NO_STYLE := by
    obtain ⟨t, e⟩ := He.str_ok X G (c.d.fact 25 (h := by rfl))
    exact ⟨_, e, t, rfl⟩
  g_PASSED := by
    obtain ⟨t, e⟩ := He.str_ok X G (c.d.fact 26 (h := by rfl))
    exact ⟨_, e, t, rfl⟩
  g_BRACKETS := ⟨_, He.glo_ok X G (c.d.fact 27 (h := by rfl)), rfl⟩
  t_BRACKETS := fun H => by
    have := tupAB_ok (c.ex 0 (h := by rfl)) H
    rw [List.map_map] at this
    exact this
  g_ALIGNS := ⟨_, He.glo_ok X G (c.d.fact 28 (h := by rfl)), rfl⟩
  t_ALIGNS := fun H => by
    have := tupAB_ok (c.ex 1 (h := by rfl)) H
    rw [List.map_map] at this
    exact this
  g_COUNTED := ⟨_, He.glo_ok X G (c.d.fact 29 (h := by rfl)), rfl⟩
  t_COUNTED := fun H => by
    have := tupAB_ok (c.ex 2 (h := by rfl)) H
    rw [List.map_map] at this
    exact this
  g_WAYS := ⟨_, He.glo_ok X G (c.d.fact 30 (h := by rfl)), rfl⟩
  t_WAYS := fun H => by
    have := tupAB_ok (c.ex 3 (h := by rfl)) H
    rw [List.map_map] at this
    exact this
  g_SORTS := ⟨_, He.glo_ok X G (c.d.fact 31 (h := by rfl)), rfl⟩
  t_SORTS := fun H => by
    have := tupAB_ok (c.ex 4 (h := by rfl)) H
    rw [List.map_map] at this
    exact this
  g_KINDS := ⟨_, He.glo_ok X G (c.d.fact 32 (h := by rfl)), rfl⟩
  t_KINDS := fun H => by
    have := tupAB_ok (c.ex 5 (h := by rfl)) H
    rw [List.map_map] at this
    exact this
  g_TOKENED := ⟨_, He.glo_ok X G (c.d.fact 33 (h := by rfl)), rfl⟩
  t_TOKENED := fun H => by
    have := tupAB_ok (c.ex 6 (h := by rfl)) H
    rw [List.map_map] at this
    exact this
  g_PAIRS := ⟨_, He.glo_ok X G (c.d.fact 34 (h := by rfl)), rfl⟩
  d_PAIRS := c.t.tab 0 (h := by rfl)
  g_CHECKS := ⟨_, He.glo_ok X G (c.d.fact 35 (h := by rfl)), rfl⟩
  d_CHECKS := c.t.tab 1 (h := by rfl)
  g_NUMBERS := ⟨_, He.glo_ok X G (c.d.fact 36 (h := by rfl)), rfl⟩
  d_NUMBERS := c.t.tab 2 (h := by rfl)
  g_FORMS := ⟨_, He.glo_ok X G (c.d.fact 37 (h := by rfl)), rfl⟩
  d_FORMS := c.t.tab 3 (h := by rfl)
  p_PAIRS := kdB_ok (c.ex 7 (h := by rfl)) fun y u h => He.relB_ok h
  p_NUMBERS := kdB_ok (c.ex 8 (h := by rfl)) fun y u h => by
    obtain ⟨a, e, h⟩ := refB_ok h
    exact ⟨a, e, fun H => tupAB_ok h H⟩
  p_FORMS := kdB_ok (c.ex 9 (h := by rfl)) fun y u h => by
    obtain ⟨a, e, h⟩ := refB_ok h
    refine ⟨a, e, fun H => ?_⟩
    have := tupAB_ok h H
    rw [List.map_map] at this
    exact this
  p_CHECKS := kdB_ok (c.ex 10 (h := by rfl)) fun y u h => of_decide_eq_true h
  gl_Shape := He.glo_ok X G (c.d.fact 38 (h := by rfl))
  k_Shape := He.cls_ok (c.d.fact 39 (h := by rfl))
  mk_Shape := He.mkr_ok (c.d.fact 40 (h := by rfl))
  no_Shape := fun f hf => by
    simp only [List.mem_cons, List.not_mem_nil, or_false] at hf
    rcases hf with rfl | rfl | rfl | rfl | rfl | rfl
    · exact He.noat_ok (c.d.fact 41 (h := by rfl))
    · exact He.noat_ok (c.d.fact 42 (h := by rfl))
    · exact He.noat_ok (c.d.fact 43 (h := by rfl))
    · exact He.noat_ok (c.d.fact 44 (h := by rfl))
    · exact He.noat_ok (c.d.fact 45 (h := by rfl))
    · exact He.noat_ok (c.d.fact 46 (h := by rfl))
  me_Shape := fun f hf => by
    simp only [List.mem_cons, List.not_mem_nil, or_false] at hf
    rcases hf with rfl | rfl | rfl | rfl | rfl
    · exact He.meth_ok (c.d.fact 47 (h := by rfl))
    · exact He.meth_ok (c.d.fact 48 (h := by rfl))
    · exact He.meth_ok (c.d.fact 49 (h := by rfl))
    · exact He.meth_ok (c.d.fact 50 (h := by rfl))
    · exact He.meth_ok (c.d.fact 51 (h := by rfl))
  gl_Text := He.glo_ok X G (c.d.fact 52 (h := by rfl))
  k_Text := He.cls_ok (c.d.fact 53 (h := by rfl))
  mk_Text := He.mkr_ok (c.d.fact 54 (h := by rfl))
  no_Text := fun f hf => by
    simp only [List.mem_cons, List.not_mem_nil, or_false] at hf
    rcases hf with rfl
    · exact He.noat_ok (c.d.fact 55 (h := by rfl))
  me_Text := fun f hf => by
    simp only [List.mem_cons, List.not_mem_nil, or_false] at hf
    rcases hf with rfl | rfl
    · exact He.meth_ok (c.d.fact 56 (h := by rfl))
    · exact He.meth_ok (c.d.fact 57 (h := by rfl))
  gl_NoText := He.glo_ok X G (c.d.fact 58 (h := by rfl))
  gl_TongueError := He.glo_ok X G (c.d.fact 59 (h := by rfl))
  x_NoText := ⟨oexB_ok (c.ex 11 (h := by rfl)), He.eqO_ok (c.ex 12 (h := by rfl)), of_decide_eq_true (c.ex 13 (h := by rfl)), of_decide_eq_true (c.ex 14 (h := by rfl)), c.ex 15 (h := by rfl)⟩
  i_NoText := He.eqO_ok (c.ex 16 (h := by rfl))
  ty_NoText := of_decide_eq_true (c.ex 17 (h := by rfl))
  no_NoText := He.noat_ok (c.d.fact 60 (h := by rfl))
  exm_NoText := He.exm_ok (c.d.fact 61 (h := by rfl))
  te_init := ⟨He.eqO_ok (c.ex 18 (h := by rfl)), c.ex 19 (h := by rfl), clsAtB_ok (c.ex 20 (h := by rfl))⟩
  ne_Text := He.eqO_ok (c.ex 21 (h := by rfl))
  sub_Text := of_decide_eq_true (c.ex 22 (h := by rfl))
  ty_Text := fun H a dx fs e => .ins e (He.cls_ok (c.d.fact 53 (h := by rfl))) (He.eqO_ok (c.ex 23 (h := by rfl))) (He.eqO_ok (c.ex 24 (h := by rfl))) (of_decide_eq_true (c.ex 25 (h := by rfl))) (of_decide_eq_true (c.ex 26 (h := by rfl)))
  kit_Text := of_decide_eq_true (c.ex 27 (h := by rfl))
  fn := fun i d h => c.d.def_ i h
  gl := fun i d h hn => by
    have h1 := List.all_eq_true.mp (c.ex 28 (h := by rfl)) d (List.mem_of_getElem? h)
    rw [hn] at h1
    exact PySem.W.mg_of X G (He.eqO_ok h1)
end Pk
set_option Elab.async false
set_option linter.all false
set_option maxRecDepth 100000
set_option maxHeartbeats 0
/-! The head's run. -/
namespace Pk
open PySem PySem.Spec PyProof.Rows L2
abbrev R : PySem.W.OpenRow := PySem.W.OpenLaw.row PySem.Challenge.rw_papertongue_k09_whole_plain_form_is_one
abbrev hk : PySem.W.Hook := hookP 4 fa defs tabs exB
def ob (s : PySem.W.SharedT) : AlP := obsPG 4 fa defs tabs exB (HandSHeadRun.getT s)
theorem ob_eq (s : PySem.W.SharedT) : ob s = hk.obs s.abs := obsPG_eq (HandSHeadRun.getT_eq s)
/-- the state behind the top, whatever the world's one answer -/
noncomputable abbrev endW (w : World) (b : Bool) (os : OsState) : Option PySem.W.SharedT := HandSHeadRun.endF (HandSHeadRun.stepQ (HandSHeadRun.denQ HandSHeadRun.tabQ) R.prog (w.withFollow "special-get-raises" b)) 20000 R.prog (w.withFollow "special-get-raises" b) os
noncomputable abbrev look1 (w : World) (b : Bool) (s : PySem.W.SharedT) : Bool := HandSHeadRun.looksF R.prog (PySem.W.boot_heap (w.withFollow "special-get-raises" b).params) s.abs
abbrev vw : Program := PySem.W.view R.prog [91]
noncomputable abbrev look2 (s : PySem.W.SharedT) := HandSHeadRun.seenQ vw loose (importedModules R.prog.main.body) (fun s => PySem.W.xlAt vw [] s && PySem.W.recOk R.toRowW.records s) s.abs
theorem l1F (w : World) (os : OsState) : (endW w false os).map (look1 w false) = some true := by
  kernel_rfl
theorem l2F (w : World) (os : OsState) : (endW w false os).map look2 = some (PySem.W.openGood vw loose) := by
  kernel_rfl
theorem l3F (w : World) (os : OsState) : (endW w false os).map ob = some (hk.val (w.withFollow "special-get-raises" false)) := by
  kernel_rfl
theorem l1T (w : World) (os : OsState) : (endW w true os).map (look1 w true) = some true := by
  kernel_rfl
theorem l2T (w : World) (os : OsState) : (endW w true os).map look2 = some (PySem.W.openGood vw loose) := by
  kernel_rfl
theorem l3T (w : World) (os : OsState) : (endW w true os).map ob = some (hk.val (w.withFollow "special-get-raises" true)) := by
  kernel_rfl
theorem map3 {α β γ δ : Type} {o : Option α} {f : α → β} {g : α → γ} {h : α → δ} {a : β} {b : γ} {c : δ} (h1 : o.map f = some a) (h2 : o.map g = some b) (h3 : o.map h = some c) : o.map (fun s => (f s, g s, h s)) = some (a, b, c) := by
  cases o with
  | none => cases h1
  | some s =>
    cases h1
    cases h2
    cases h3
    rfl
theorem run (w : World) : HandSHeadRun.RunEq R vw hk ob 20000 loose w :=
  PySem.W.byRow2 "special-get-raises" (P := fun w => HandSHeadRun.RunEq R vw hk ob 20000 loose w) (fun w os => map3 (l1F w os) (l2F w os) (l3F w os)) (fun w os => map3 (l1T w os) (l2T w os) (l3T w os)) w
theorem law_facts {P : Program} {w : World} {K : PySem.W.Frag} {h : Heap} {mg : Str → Option Value} {f : Addr} (X : K.In h) (G : h.Ns mainGlobals mg) (hfa : mg ("law" : Str) = some (.ref f)) (c : SaysP fa defs tabs exB w K) :
    ∃ fd : FuncData, (∀ (s : Shared) (v : Value), BindsTo s fd ⟨[v], []⟩ [("_law_script", v)]) ∧ ∀ base : Heap, K.In base → base.Ns mainGlobals mg → FnOk P w K mg base CX0 15 f fd ["_law_script"] (sp_law K) := by
  have T := txt_of X G c
  obtain ⟨fd, F, hm⟩ := T.df 55 "law" 91 rfl
  have e := hfa.symm.trans hm
  cases e
  have b := FunD.bindsA (ps := ["_law_script"]) F fun _ _ _ _ _ _ us hl => match us, hl with | [_], _ => rfl
  exact ⟨fd, fun s v => b s [v] rfl, fun base _ _ => ok_law T F⟩
end Pk
open PySem PySem.W PySem.Calls PyProof.Rows
theorem PySem.Challenge.cw_papertongue_k09_whole_plain_form_is_one_holds : PySem.Challenge.rw_papertongue_k09_whole_plain_form_is_one.Holds := by
  w_on; o_law
  refine HandSHeadRun.head_any (r := OpenLaw.row PySem.Challenge.rw_papertongue_k09_whole_plain_form_is_one) (q := view (OpenLaw.row PySem.Challenge.rw_papertongue_k09_whole_plain_form_is_one).prog [91]) (H := Pk.hk) (ob := Pk.ob) (M := 20000) (loose := Pk.loose) (d := HandSHeadRun.topDef (OpenLaw.row PySem.Challenge.rw_papertongue_k09_whole_plain_form_is_one).prog 91) (kwd := []) Pk.ob_eq
    (by kernel_rfl) (fun s => by kernel_rfl) Pk.run (by kernel_rfl) (by kernel_rfl) (by kernel_rfl) (by rfl) (by first | assumption | decide +kernel) (by decide +kernel) ⟨rfl, rfl, rfl, rfl, rfl, by decide +kernel⟩ ?hw ?hc
  case hw => w_witness2
  case hc =>
    refine L2.walk_ofE (l := PySem.Challenge.rw_papertongue_k09_whole_plain_form_is_one) (n := 63) (k := 15) (x := "_law_script") (CX := L2.CX0) rfl (by decide) (by kernel_rfl) ⟨rfl, by decide, by decide⟩ ?F (fun _ _ _ _ z => z)
    intro w mg fa h Y G hmg0
    obtain ⟨K, KX, c⟩ := Y
    have hmg : mg ("law" : PySem.Str) = some (.ref fa) := by
      have e : (HandSHeadRun.topDef (OpenLaw.row PySem.Challenge.rw_papertongue_k09_whole_plain_form_is_one).prog 91).name = ("law" : PySem.Str) := by kernel_rfl
      rw [← e]
      exact hmg0
    obtain ⟨fd, hb, hF⟩ := Pk.law_facts (P := (PySem.Challenge.rw_papertongue_k09_whole_plain_form_is_one).prog) (w := w) KX G hmg c
    exact ⟨K, fd, Pk.sp_law K, KX, hb, fun H a ns hl _ hS => ⟨a, ns, rfl, hS, hl, fun _ => rfl⟩, hF⟩
