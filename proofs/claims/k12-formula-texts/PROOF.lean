import PyProof.Rows.All
import Wide.All
import OpenK.AllK
import Wide.FinOn
import KE.KStateDown
import KE.GoesEnum
import HandS.ForMost
import HandS.Defaults
import HandS.DictComp
import HandS.IsInst
import HandS.TupAny
import HandS.Wide
import HandS.Conv
import HandS.Flow
import HandS.Sort
import HandS.HeadHook1
import HandS.HeadHook2
import HandS.Walk
import OpenK.KEqL
import PyProof.Rows.StrMeet
import PyProof.Rows.TmSorted
import PyProof.P3Eq
import HandS.CallLocal
import HandS.AnyAll
import HandS.EndTab
import HandS.FStr
import HandS.StrMore
import HandS.Exc
import HandS.ExcOwn
import HandS.TryOnly
import HandS.WordsExc
import HandS.CallSlots
import HandS.ExcInit
import HandS.Nested
import KE.KExcSuper
import HandS.ExcField
import HandS.ExcIs
import HandS.Codes
import HandS.ReplaceLit
import HandS.TupMul
import PyProof.ListIndex
import HandS.Property
import HandS.SlotsOwn
import HandS.MakeKwOnly
import HandS.More
import HandS.ClsMeth
import HandS.Rev
import PyProof.MeetsIn
import PyProof.Rows.Range3
import PySem.Challenge.RW_loopsheds_k12_formula_texts
import HandS.ReplaceList
import HandS.HeadNt
import HandS.HeadHook4
import HandS.HeadWalk
import HandS.Head0
import HandS.Head1
import HandS.Head2
import HandS.HeadEnd
set_option Elab.async false
set_option linter.all false
set_option maxRecDepth 100000
set_option maxHeartbeats 0
/-! ### k12, plain: formulas, their words, the grammar (words are texts; no program in sight) -/
namespace Df
open PySem
inductive Fm where
  | cmp (op : Str) (l r : Str × Int)
  | no (f : Fm)
  | q (kind name : Str) (f : Fm)
  | row (kind : Str) (fs : List Fm)
def numW (n : Nat) : Str := toString n
/-- the words of an atom -/
def atomW : Str × Int → List Str
  | (x, i) => if x = "0" then (if i < 0 then ["-", numW i.natAbs] else [numW i.natAbs]) else if i = 0 then [x] else if 0 < i then [x, "+", numW i.natAbs] else [x, "-", numW i.natAbs]
/-- the words of what stands between the kinds of a row -/
def sepW (k : Str) : List (List Str) → List Str
  | [] => []
  | [w] => w
  | w :: ws => w ++ [k] ++ sepW k ws
mutual
/-- the words of a formula; inside: within another one -/
def fmW : Bool → Fm → List Str
  | _, .cmp op l r => atomW l ++ [op] ++ atomW r
  | _, .no f => "not" :: fmW true f
  | b, .q k n f => (if b then [("(" : Str)] else []) ++ k :: n :: qW k f ++ (if b then [(")" : Str)] else [])
  | b, .row k fs => (if b then [("(" : Str)] else []) ++ sepW k (fmsW fs) ++ (if b then [(")" : Str)] else [])
/-- behind the name of a quantifier of kind k: more names of the same kind, or the body -/
def qW : Str → Fm → List Str
  | k, .q k2 n f => if k2 = k then n :: qW k f else ":" :: (k2 :: n :: qW k2 f)
  | _, .cmp op l r => ":" :: (atomW l ++ [op] ++ atomW r)
  | _, .no f => ":" :: "not" :: fmW true f
  | _, .row k2 fs => ":" :: sepW k2 (fmsW fs)
def fmsW : List Fm → List (List Str)
  | [] => []
  | f :: fs => fmW true f :: fmsW fs
end
/-- what the reader has: words read, the rest; names around -/
abbrev RdSt := List Str × List Str
def opsL : List Str := ["<=", ">=", "!=", "=", "<", ">"]
/-- an answer, or the refusal at the word in front -/
inductive An (α : Type) where
  | ok (a : α) (ws : List Str)
  | bad (ws : List Str)
  | out
def An.bind {α β : Type} : An α → (α → List Str → An β) → An β
  | .ok a ws, f => f a ws
  | .bad ws, _ => .bad ws
  | .out, _ => .out
def isFig (c : Nat) : Bool := 48 ≤ c && c ≤ 57
def isSmall (c : Nat) : Bool := 97 ≤ c && c ≤ 122
def wordsF : List Str := ["all", "some", "not", "and", "or"]
def isNameW (x : Str) : Bool := decide (1 ≤ x.length) && (decide (x.length ≤ 8) && (x.cps.toList.all isSmall && !wordsF.contains x))
def isNumW (x : Str) : Bool := decide (1 ≤ x.length) && (x.cps.toList.all isFig && (decide (x.length ≤ 4) && (decide (x = "0") || decide (x.cps.toList.head? ≠ some 48))))
def isFigsW (x : Str) : Bool := decide (1 ≤ x.length) && x.cps.toList.all isFig
def numOf (x : Str) : Int := x.cps.toList.foldl (fun (a : Int) (c : Nat) => a * 10 + ((c : Int) - 48)) 0
/-- the word in front; behind the last one stands the empty word -/
def hd (ws : List Str) : Str := ws.headD ""
def numR (ws : List Str) : An Int := if isNumW (hd ws) then .ok (numOf (hd ws)) ws.tail else .bad ws
def nameR (ws : List Str) : An Str := if isNameW (hd ws) then .ok (hd ws) ws.tail else .bad ws
def termR (ws : List Str) : An (Str × Int) :=
  if hd ws = "-" then (numR ws.tail).bind fun n ws => .ok ("0", 0 - n) ws
  else if isFigsW (hd ws) then (numR ws).bind fun n ws => .ok ("0", n) ws
  else (nameR ws).bind fun x ws => if hd ws = "+" then (numR ws.tail).bind fun n ws => .ok (x, n) ws else if hd ws = "-" then (numR ws.tail).bind fun n ws => .ok (x, 0 - n) ws else .ok (x, 0) ws
def cmpR (ws : List Str) : An Fm := (termR ws).bind fun l ws => if opsL.contains (hd ws) then (termR ws.tail).bind fun r ws' => .ok (.cmp (hd ws) l r) ws' else .bad ws
def takeR (x : Str) (ws : List Str) : An Unit := if hd ws = x then .ok () ws.tail else .bad ws
/-- the names of a quantifier, then its body (row: how a body is read); m: fuel -/
def quL (row : List Str → List Str → An Fm) : Nat → Str → List Str → List Str → List Str → An Fm
  | 0, _, _, _, _ => .out
  | m + 1, k, ar, ns, ws =>
    if ns ≠ [] ∧ hd ws = ":" then (row ar ws.tail).bind fun f ws => .ok (ns.foldl (fun f x => .q k x f) f) ws
    else if ar.contains (hd ws) then .bad ws
    else (nameR ws).bind fun x ws => quL row m k (ar ++ [x]) (x :: ns) ws
/-- more parts; fs: the parts read, the last one first -/
def restL (part : List Str → An Fm) : Nat → Str → List Fm → List Str → An Fm
  | 0, _, _, _ => .out
  | m + 1, k, fs, ws =>
    if hd ws = k then (part ws.tail).bind fun f ws => restL part m k (f :: fs) ws
    else match fs with
      | [f] => .ok f ws
      | _ => .ok (.row k fs.reverse) ws
mutual
/-- what a denial reads; d: how deep it may go -/
def denR : Nat → List Str → List Str → An Fm
  | 0, _, _ => .out
  | d + 1, ar, ws =>
    if hd ws = "not" then (denR d ar ws.tail).bind fun f ws => .ok (.no f) ws
    else if hd ws = "all" ∨ hd ws = "some" then quL (fun ar ws => rowR d "or" ar ws) (ws.length + 1) (hd ws) ar [] ws.tail
    else if hd ws = "(" then (rowR d "or" ar ws.tail).bind fun f ws => (takeR ")" ws).bind fun _ ws => .ok f ws
    else cmpR ws
def rowR : Nat → Str → List Str → List Str → An Fm
  | 0, _, _, _ => .out
  | d + 1, k, ar, ws => (if k = "and" then denR d ar ws else rowR d "and" ar ws).bind fun f ws' => restL (fun ws => if k = "and" then denR d ar ws else rowR d "and" ar ws) (ws'.length + 1) k [f] ws'
end
/-- a whole text, as words -/
def readW (n : Nat) (ws : List Str) : An Fm := (rowR n "or" [] ws).bind fun f ws => if hd ws = "" then .ok f ws else .bad ws
end Df
namespace Df
open PySem
mutual
def same : Fm → Fm → Bool
  | .cmp o l r, .cmp o2 l2 r2 => decide (o = o2) && (decide (l = l2) && decide (r = r2))
  | .no f, .no g => same f g
  | .q k n f, .q k2 n2 g => decide (k = k2) && (decide (n = n2) && same f g)
  | .row k fs, .row k2 gs => decide (k = k2) && sames fs gs
  | _, _ => false
def sames : List Fm → List Fm → Bool
  | [], [] => true
  | f :: fs, g :: gs => same f g && sames fs gs
  | _, _ => false
end
def a0 : Fm := .cmp "=" ("i", -2) ("0", -1)
def t1 : Fm := .q "all" "k" (.q "all" "u" (.q "some" "w" (.row "or" [.row "and" [a0, .no (.row "or" [a0, a0])], .q "some" "kk" a0, .no (.no a0)])))
def back (t : Fm) : Bool := match readW 100 (fmW false t ++ [("" : Str)]) with
  | .ok f ws => same f t && decide (ws = [("" : Str)])
  | _ => false
theorem test1 : back t1 = true := by decide +kernel
theorem test2 : back a0 = true := by decide +kernel
theorem test3 : back (.row "and" [t1, a0]) = true := by decide +kernel
end Df

namespace Df
open PySem
theorem num_ok : ∀ n ≤ 9, isNumW (numW n) = true ∧ numOf (numW n) = (n : Int) ∧ isFigsW (numW n) = true ∧ numW n ≠ "-" := by decide +kernel
/-- an atom as the law draws them -/
structure OkA (a : Str × Int) : Prop where
  x : a.1 = "0" ∨ isNameW a.1 = true
  i : a.2.natAbs ≤ 9
theorem name_ne {x : Str} (h : isNameW x = true) : x ≠ "0" ∧ x ≠ "-" ∧ x ≠ "+" ∧ x ≠ "(" ∧ x ≠ ":" ∧ x ≠ "" ∧ x ≠ "not" ∧ x ≠ "all" ∧ x ≠ "some" ∧ x ≠ "and" ∧ x ≠ "or" := by
  refine ⟨?_, ?_, ?_, ?_, ?_, ?_, ?_, ?_, ?_, ?_, ?_⟩ <;> (intro e; subst e; revert h; decide +kernel)
theorem name_nofig {x : Str} (h : isNameW x = true) : isFigsW x = false := by
  unfold isNameW at h
  simp only [Bool.and_eq_true, decide_eq_true_eq] at h
  obtain ⟨h1, h2, h3, h4⟩ := h
  unfold isFigsW
  cases e : x.cps.toList with
  | nil =>
    have : x.length = 0 := by
      show x.cps.size = 0
      rw [← Array.length_toList, e]
      rfl
    omega
  | cons c r =>
    rw [e] at h3
    have hc := List.all_eq_true.mp h3 c List.mem_cons_self
    have : isFig c = false := by
      unfold isSmall at hc
      unfold isFig
      simp only [Bool.and_eq_true, decide_eq_true_eq] at hc
      rw [Bool.and_eq_false_iff]
      right
      exact decide_eq_false (by omega)
    rw [List.all_cons, this, Bool.false_and, Bool.and_false]
theorem bind_ok {α β : Type} (a : α) (ws : List Str) (f : α → List Str → An β) : (An.ok a ws).bind f = f a ws := rfl
theorem hd_cons (x : Str) (ws : List Str) : hd (x :: ws) = x := rfl
theorem numR_ok {n : Nat} (h : n ≤ 9) (ws : List Str) : numR (numW n :: ws) = .ok (n : Int) ws := by
  obtain ⟨h1, h2, _⟩ := num_ok n h
  unfold numR
  rw [hd_cons, if_pos h1, h2]
  rfl
/-- behind an atom -/
def endA (ws : List Str) : Prop := hd ws ≠ "+" ∧ hd ws ≠ "-"
theorem termR_ok {a : Str × Int} (h : OkA a) {ws : List Str} (he : endA ws) : termR (atomW a ++ ws) = .ok a ws := by
  obtain ⟨x, i⟩ := a
  have hi : i.natAbs ≤ 9 := h.i
  obtain ⟨n1, n2, n3, n4⟩ := num_ok _ hi
  rcases h.x with e | hx
  · have e : x = "0" := e
    subst e
    rw [show atomW (("0" : Str), i) = (if i < 0 then [("-" : Str), numW i.natAbs] else [numW i.natAbs]) by simp [atomW]]
    by_cases c : i < 0
    · rw [if_pos c]
      unfold termR
      rw [List.cons_append, hd_cons, if_pos rfl]
      show (numR (numW i.natAbs :: ws)).bind _ = _
      rw [numR_ok hi]
      show An.ok (("0" : Str), (0 : Int) - (i.natAbs : Int)) ws = _
      rw [show (0 : Int) - (i.natAbs : Int) = i by omega]
    · rw [if_neg c]
      unfold termR
      rw [List.cons_append, hd_cons, if_neg n4, if_pos n3]
      show (numR (numW i.natAbs :: ws)).bind _ = _
      rw [numR_ok hi]
      show An.ok (("0" : Str), (i.natAbs : Int)) ws = _
      rw [show (i.natAbs : Int) = i by omega]
  · have hx : isNameW x = true := hx
    obtain ⟨m0, m1, m2, _⟩ := name_ne hx
    have hR : ∀ ws, nameR (x :: ws) = .ok x ws := fun ws => by
      unfold nameR
      rw [hd_cons, if_pos hx]
      rfl
    rw [show atomW (x, i) = (if i = 0 then [x] else if 0 < i then [x, ("+" : Str), numW i.natAbs] else [x, ("-" : Str), numW i.natAbs]) from if_neg m0]
    by_cases c : i = 0
    · subst c
      rw [if_pos rfl]
      unfold termR
      rw [List.cons_append, hd_cons, if_neg m1, name_nofig hx, if_neg (by decide)]
      show (nameR (x :: ws)).bind _ = _
      rw [hR, bind_ok]
      rw [if_neg he.1, if_neg he.2]
    · rw [if_neg c]
      by_cases c2 : 0 < i
      · rw [if_pos c2]
        unfold termR
        rw [List.cons_append, hd_cons, if_neg m1, name_nofig hx, if_neg (by decide)]
        show (nameR (x :: "+" :: numW i.natAbs :: ws)).bind _ = _
        rw [hR, bind_ok]
        rw [hd_cons, if_pos rfl, List.tail_cons, numR_ok hi]
        show An.ok (x, (i.natAbs : Int)) ws = _
        rw [show (i.natAbs : Int) = i by omega]
      · rw [if_neg c2]
        unfold termR
        rw [List.cons_append, hd_cons, if_neg m1, name_nofig hx, if_neg (by decide)]
        show (nameR (x :: "-" :: numW i.natAbs :: ws)).bind _ = _
        rw [hR, bind_ok]
        rw [hd_cons, if_neg (by decide +kernel), if_pos rfl, List.tail_cons, numR_ok hi]
        show An.ok (x, (0 : Int) - (i.natAbs : Int)) ws = _
        rw [show (0 : Int) - (i.natAbs : Int) = i by omega]
theorem ops_ne : ∀ o ∈ opsL, o ≠ "+" ∧ o ≠ "-" := by decide +kernel
theorem cmpR_ok {op : Str} {l r : Str × Int} (ho : op ∈ opsL) (hl : OkA l) (hr : OkA r) {ws : List Str} (he : endA ws) : cmpR (atomW l ++ [op] ++ atomW r ++ ws) = .ok (.cmp op l r) ws := by
  have e : atomW l ++ [op] ++ atomW r ++ ws = atomW l ++ (op :: (atomW r ++ ws)) := by simp
  rw [e]
  unfold cmpR
  rw [termR_ok hl (ws := op :: (atomW r ++ ws)) (ops_ne op ho)]
  rw [bind_ok, hd_cons, if_pos (List.contains_iff_mem.mpr ho), List.tail_cons, termR_ok hr he]
  rfl
end Df

namespace Df
open PySem
/-- a formula as the law draws it; ar: the names bound around it -/
inductive OkF : List Str → Fm → Prop where
  | cmp {ar : List Str} {op : Str} {l r : Str × Int} (ho : op ∈ opsL) (hl : OkA l) (hr : OkA r) : OkF ar (.cmp op l r)
  | no {ar : List Str} {f : Fm} (h : OkF ar f) : OkF ar (.no f)
  | q {ar : List Str} {k n : Str} {f : Fm} (hk : k = "all" ∨ k = "some") (hn : isNameW n = true) (hf : n ∉ ar) (h : OkF (ar ++ [n]) f) : OkF ar (.q k n f)
  | row {ar : List Str} {k : Str} {fs : List Fm} (hk : k = "or" ∨ k = "and") (hl : 2 ≤ fs.length) (h : ∀ f ∈ fs, OkF ar f) : OkF ar (.row k fs)
/-- behind a whole formula -/
def endF (ws : List Str) : Prop := endA ws ∧ hd ws ≠ "and" ∧ hd ws ≠ "or"
theorem atom_hd {a : Str × Int} (h : OkA a) (ws : List Str) : ∃ x r, atomW a ++ ws = x :: r ∧ x ≠ "not" ∧ x ≠ "all" ∧ x ≠ "some" ∧ x ≠ "(" := by
  obtain ⟨x, i⟩ := a
  have hn : ∀ n ≤ 9, numW n ≠ "not" ∧ numW n ≠ "all" ∧ numW n ≠ "some" ∧ numW n ≠ "(" := by decide +kernel
  have hm : ("-" : Str) ≠ "not" ∧ ("-" : Str) ≠ "all" ∧ ("-" : Str) ≠ "some" ∧ ("-" : Str) ≠ "(" := by decide +kernel
  rcases h.x with e | hx
  · have e : x = "0" := e
    subst e
    by_cases c : i < 0
    · exact ⟨"-", numW i.natAbs :: ws, by simp [atomW, c], hm⟩
    · exact ⟨numW i.natAbs, ws, by simp [atomW, c], hn _ h.i⟩
  · have hx : isNameW x = true := hx
    obtain ⟨m0, m1, m2, m3, m4, m5, m6, m7, m8, m9, m10⟩ := name_ne hx
    refine ⟨x, ((atomW (x, i)).tail ++ ws), ?_, m6, m7, m8, m3⟩
    simp only [atomW, if_neg m0]
    split
    · rfl
    · split <;> rfl
mutual
/-- how deep a formula is -/
def ht : Fm → Nat
  | .cmp _ _ _ => 0
  | .no f => ht f + 1
  | .q _ _ f => ht f + 1
  | .row _ fs => hts fs + 1
def hts : List Fm → Nat
  | [] => 0
  | f :: fs => max (ht f) (hts fs)
end
theorem ht_le : ∀ {fs : List Fm} {f : Fm}, f ∈ fs → ht f ≤ hts fs
  | [], _, h => by cases h
  | g :: gs, f, h => by
    show ht f ≤ max (ht g) (hts gs)
    rcases List.mem_cons.mp h with rfl | h
    · exact Nat.le_max_left _ _
    · exact Nat.le_trans (ht_le h) (Nat.le_max_right _ _)
/-- how a part of a row of the kind k is read -/
abbrev partD (d : Nat) (k : Str) (ar : List Str) : List Str → An Fm := fun ws => if k = "and" then denR d ar ws else rowR d "and" ar ws
def DR (c : Nat) (ar : List Str) (f : Fm) : Prop := ∀ rest, endA rest → ∀ d, c ≤ d → denR d ar (fmW true f ++ rest) = .ok f rest
def FR (c : Nat) (ar : List Str) (f : Fm) : Prop := ∀ rest, endF rest → ∀ d, c ≤ d → rowR d "or" ar (fmW false f ++ rest) = .ok f rest
def GR (c : Nat) (ar : List Str) (k : Str) (f : Fm) : Prop := ∀ d, c ≤ d → ∀ ns, ns ≠ [] → ∀ rest, endF rest → ∀ m, (qW k f).length < m → quL (fun ar ws => rowR d "or" ar ws) m k ar ns (qW k f ++ rest) = .ok (ns.foldl (fun f x => .q k x f) f) rest
def PR (c : Nat) (k : Str) (ar : List Str) (f : Fm) : Prop := ∀ rest, endA rest → (k = "or" → hd rest ≠ "and") → ∀ d, c ≤ d → partD d k ar (fmW true f ++ rest) = .ok f rest
theorem suc {c d : Nat} (h : c + 1 ≤ d) : ∃ m, d = m + 1 ∧ c ≤ m := ⟨d - 1, by omega, by omega⟩
theorem D_cmp {ar : List Str} {op : Str} {l r : Str × Int} (ho : op ∈ opsL) (hl : OkA l) (hr : OkA r) : DR 1 ar (.cmp op l r) := fun rest he d hd1 => by
  obtain ⟨m, rfl, _⟩ := suc hd1
  have e : fmW true (.cmp op l r) ++ rest = atomW l ++ [op] ++ atomW r ++ rest := by simp [fmW]
  rw [e]
  obtain ⟨x, t, ex, h1, h2, h3, h4⟩ := atom_hd hl ([op] ++ atomW r ++ rest)
  have hc := cmpR_ok ho hl hr he
  have e2 : atomW l ++ [op] ++ atomW r ++ rest = x :: t := by rw [← ex]; simp
  rw [e2] at hc ⊢
  unfold denR
  rw [hd_cons, if_neg h1, if_neg (fun z => z.elim h2 h3), if_neg h4, hc]
theorem D_no {c : Nat} {ar : List Str} {f : Fm} (h : DR c ar f) : DR (c + 1) ar (.no f) := fun rest he d hd1 => by
  obtain ⟨m, rfl, hm⟩ := suc hd1
  have e : fmW true (.no f) ++ rest = ("not" : Str) :: (fmW true f ++ rest) := by simp [fmW]
  rw [e]
  unfold denR
  rw [hd_cons, if_pos rfl, List.tail_cons, h rest he m hm, bind_ok]
theorem restL_end {part : List Str → An Fm} {k : Str} {f : Fm} {rest : List Str} {m : Nat} (h : hd rest ≠ k) : restL part (m + 1) k [f] rest = .ok f rest := by
  unfold restL
  rw [if_neg h]
/-- a single part is a row of one, of both kinds -/
theorem row1 {c : Nat} {ar : List Str} {f : Fm} {ws rest : List Str} (h : ∀ d, c ≤ d → denR d ar ws = .ok f rest) (he : endF rest) : ∀ d, c + 2 ≤ d → rowR d "or" ar ws = .ok f rest := fun d hd2 => by
  obtain ⟨m, rfl, hm⟩ := suc (c := c + 1) hd2
  obtain ⟨j, rfl, hj⟩ := suc hm
  have w1 : rowR (j + 1) "and" ar ws = .ok f rest := by
    unfold rowR
    rw [if_pos rfl, h j hj, bind_ok, restL_end he.2.1]
  unfold rowR
  rw [if_neg (by decide +kernel), w1, bind_ok, restL_end he.2.2]
end Df

namespace Df
open PySem
theorem P_of {c : Nat} {ar : List Str} {f : Fm} {k : Str} (hk : k = "or" ∨ k = "and") (h : DR c ar f) : PR (c + 1) k ar f := fun rest he hne d hd1 => by
  obtain ⟨m, rfl, hm⟩ := suc hd1
  rcases hk with rfl | rfl
  · show (if ("or" : Str) = "and" then _ else rowR (m + 1) "and" ar _) = _
    rw [if_neg (by decide +kernel)]
    unfold rowR
    rw [if_pos rfl, h rest he m hm, bind_ok, restL_end (hne rfl)]
  · show (if ("and" : Str) = "and" then denR (m + 1) ar _ else _) = _
    rw [if_pos rfl, h rest he (m + 1) (by omega)]
/-- behind the first part of a row -/
def tailW (k : Str) : List Fm → List Str
  | [] => []
  | f :: fs => k :: (fmW true f ++ tailW k fs)
theorem sepW_cons (k : Str) : ∀ (fs : List Fm) (w : List Str), sepW k (w :: fmsW fs) = w ++ tailW k fs
  | [], w => by simp [fmsW, sepW, tailW]
  | f :: fs, w => by
    have ih := sepW_cons k fs (fmW true f)
    show w ++ [k] ++ sepW k (fmW true f :: fmsW fs) = w ++ (k :: (fmW true f ++ tailW k fs))
    rw [ih]
    simp
theorem kOr {k : Str} (hk : k = "or" ∨ k = "and") (ws : List Str) : endA (k :: ws) ∧ (k = "or" → hd (k :: ws) ≠ "and") := by
  show (hd (k :: _) ≠ "+" ∧ hd (k :: _) ≠ "-") ∧ (k = "or" → hd (k :: _) ≠ "and")
  rw [hd_cons]
  rcases hk with rfl | rfl
  · exact ⟨by decide +kernel, fun _ => by decide +kernel⟩
  · exact ⟨by decide +kernel, fun z => absurd z (by decide +kernel)⟩
theorem tail_end {k : Str} (hk : k = "or" ∨ k = "and") {rest : List Str} (he : endF rest) (fs : List Fm) : endA (tailW k fs ++ rest) ∧ (k = "or" → hd (tailW k fs ++ rest) ≠ "and") := by
  cases fs with
  | nil => exact ⟨he.1, fun _ => he.2.1⟩
  | cons g gs => exact kOr hk _
theorem rest_loop {k : Str} (hk : k = "or" ∨ k = "and") {c d : Nat} (hcd : c ≤ d) {ar : List Str} {rest : List Str} (he : endF rest) : ∀ (fs acc : List Fm), (∀ f ∈ fs, PR c k ar f) → 2 ≤ acc.length + fs.length → acc ≠ [] →
    ∀ m, fs.length < m → restL (partD d k ar) m k acc (tailW k fs ++ rest) = .ok (.row k (acc.reverse ++ fs)) rest
  | [], acc, _, hl, _ => fun n hn => by
    obtain ⟨m, rfl, _⟩ := suc (c := 0) hn
    show restL _ (m + 1) k acc rest = _
    have hne : hd rest ≠ k := by
      rcases hk with rfl | rfl
      · exact he.2.2
      · exact he.2.1
    unfold restL
    rw [if_neg hne, List.append_nil]
    match acc, hl with
    | [], hl => simp at hl
    | [_], hl => simp at hl
    | _ :: _ :: _, _ => rfl
  | f :: fs, acc, hP, hl, ha => fun n hn => by
    obtain ⟨m, rfl, hm⟩ := suc (c := fs.length + 1) (d := n) (by simp only [List.length_cons] at hn; omega)
    have hE := tail_end hk he fs
    have h1 := hP f List.mem_cons_self _ hE.1 hE.2 d hcd
    have h2 := rest_loop hk hcd he fs (f :: acc) (fun g hg => hP g (List.mem_cons_of_mem _ hg)) (by simp at hl ⊢; omega) (by simp) m (by omega)
    have e : tailW k (f :: fs) ++ rest = k :: (fmW true f ++ (tailW k fs ++ rest)) := by simp [tailW]
    rw [e]
    unfold restL
    rw [hd_cons, if_pos rfl, List.tail_cons, h1, bind_ok, h2]
    simp
theorem tailW_len (k : Str) : ∀ fs : List Fm, fs.length ≤ (tailW k fs).length
  | [] => Nat.le_refl _
  | f :: fs => by
    have := tailW_len k fs
    simp only [tailW, List.length_cons, List.length_append]
    omega
theorem row_ok {k : Str} (hk : k = "or" ∨ k = "and") {c : Nat} {ar : List Str} {fs : List Fm} (hl : 2 ≤ fs.length) (h : ∀ f ∈ fs, DR c ar f) {rest : List Str} (he : endF rest) : ∀ d, c + 2 ≤ d → rowR d k ar (sepW k (fmsW fs) ++ rest) = .ok (.row k fs) rest := fun d hd2 => by
  obtain ⟨m, rfl, hm⟩ := suc (c := c + 1) hd2
  match fs, hl, h with
  | f :: fs, hl, h =>
    have hE := tail_end hk he fs
    have h1 := P_of hk (h f List.mem_cons_self) _ hE.1 hE.2 m hm
    have h2 := rest_loop hk hm he fs [f] (fun g hg => P_of hk (h g (List.mem_cons_of_mem _ hg))) (by simp at hl ⊢; omega) (by simp) ((tailW k fs ++ rest).length + 1) (by
      have := tailW_len k fs
      rw [List.length_append]
      omega)
    have e : sepW k (fmsW (f :: fs)) ++ rest = fmW true f ++ (tailW k fs ++ rest) := by
      show sepW k (fmW true f :: fmsW fs) ++ rest = _
      rw [sepW_cons]
      simp
    rw [e]
    unfold rowR
    rw [show (if k = "and" then denR m ar (fmW true f ++ (tailW k fs ++ rest)) else rowR m "and" ar (fmW true f ++ (tailW k fs ++ rest))) = .ok f (tailW k fs ++ rest) from h1, bind_ok]
    exact h2.trans (by simp)
theorem F_row {k : Str} (hk : k = "or" ∨ k = "and") {c : Nat} {ar : List Str} {fs : List Fm} (hl : 2 ≤ fs.length) (h : ∀ f ∈ fs, DR c ar f) : FR (c + 3) ar (.row k fs) := fun rest he d hd3 => by
  obtain ⟨m, rfl, hm⟩ := suc (c := c + 2) hd3
  have hN := row_ok hk hl h he
  have e : fmW false (.row k fs) ++ rest = sepW k (fmsW fs) ++ rest := by simp [fmW]
  rw [e]
  rcases hk with rfl | rfl
  · exact hN (m + 1) (by omega)
  · unfold rowR
    rw [if_neg (by decide +kernel), hN m hm, bind_ok, restL_end he.2.2]
theorem end_par (rest : List Str) : endF ((")" : Str) :: rest) := by
  show (hd (_ :: _) ≠ "+" ∧ hd (_ :: _) ≠ "-") ∧ hd (_ :: _) ≠ "and" ∧ hd (_ :: _) ≠ "or"
  rw [hd_cons]
  decide +kernel
theorem den_par {c : Nat} {ar ws : List Str} {f : Fm} {rest : List Str} (h : ∀ d, c ≤ d → rowR d "or" ar (ws ++ ((")" : Str) :: rest)) = .ok f ((")" : Str) :: rest)) : ∀ d, c + 1 ≤ d → denR d ar (("(" : Str) :: (ws ++ ((")" : Str) :: rest))) = .ok f rest := fun d hd1 => by
  obtain ⟨m, rfl, hm⟩ := suc hd1
  unfold denR
  rw [hd_cons, if_neg (by decide +kernel), if_neg (by decide +kernel), if_pos rfl, List.tail_cons, h m hm, bind_ok]
  unfold takeR
  rw [hd_cons, if_pos rfl, List.tail_cons, bind_ok]
/-- in parentheses -/
theorem D_par {c : Nat} {ar : List Str} {f : Fm} (h : FR c ar f) (e : fmW true f = ("(" : Str) :: (fmW false f ++ [(")" : Str)])) : DR (c + 1) ar f := fun rest he d hd1 => by
  have e2 : fmW true f ++ rest = ("(" : Str) :: (fmW false f ++ ((")" : Str) :: rest)) := by rw [e]; simp
  rw [e2]
  exact den_par (fun d hd => h _ (end_par rest) d hd) d hd1
end Df

namespace Df
open PySem
theorem G_body {c : Nat} {ar : List Str} {k : Str} {f : Fm} (h : FR c ar f) (e : qW k f = (":" : Str) :: fmW false f) : GR c ar k f := fun d hcd ns hns rest he n hn => by
  obtain ⟨m, rfl, _⟩ := suc (c := 0) (by omega : 0 + 1 ≤ n)
  have e2 : qW k f ++ rest = (":" : Str) :: (fmW false f ++ rest) := by rw [e]; rfl
  rw [e2]
  unfold quL
  rw [hd_cons, if_pos ⟨hns, rfl⟩, List.tail_cons, h rest he d hcd, bind_ok]
theorem qu_name {row : List Str → List Str → An Fm} {ar : List Str} {k n : Str} (hn : isNameW n = true) (hf : n ∉ ar) (ns : List Str) (m : Nat) (ws : List Str) : quL row (m + 1) k ar ns (n :: ws) = quL row m k (ar ++ [n]) (n :: ns) ws := by
  obtain ⟨m0, m1, m2, m3, m4, m5, m6, m7, m8, m9, m10⟩ := name_ne hn
  have hc : ar.contains n = false := by
    cases q : ar.contains n with
    | false => rfl
    | true => exact absurd (List.contains_iff_mem.mp q) hf
  rw [quL]
  rw [hd_cons, if_neg (fun z => m4 z.2), hc, if_neg (by decide)]
  unfold nameR
  rw [hd_cons, if_pos hn, bind_ok]
  rfl
theorem G_step {c : Nat} {ar : List Str} {k n : Str} {g : Fm} (hn : isNameW n = true) (hf : n ∉ ar) (h : GR c (ar ++ [n]) k g) : GR c ar k (.q k n g) := fun d hcd ns hns rest he m hm => by
  have e0 : qW k (.q k n g) = n :: qW k g := by simp [qW]
  rw [e0] at hm ⊢
  obtain ⟨m, rfl, hm'⟩ := suc (c := (qW k g).length + 1) (d := m) (by simp only [List.length_cons] at hm; omega)
  rw [List.cons_append, qu_name hn hf, h d hcd (n :: ns) (by simp) rest he m (by omega)]
  rfl
theorem den_q {c : Nat} {ar : List Str} {k n : Str} {ws : List Str} {r : An Fm} (hk : k = "all" ∨ k = "some") (hn : isNameW n = true) (hf : n ∉ ar) (h : ∀ d, c ≤ d → quL (fun ar ws => rowR d "or" ar ws) (ws.length + 2) k (ar ++ [n]) [n] ws = r) : ∀ d, c + 1 ≤ d → denR d ar (k :: n :: ws) = r := fun d hd1 => by
  obtain ⟨m, rfl, hm⟩ := suc hd1
  have hnot : k ≠ "not" := by rcases hk with rfl | rfl <;> decide +kernel
  rw [denR, hd_cons, if_neg hnot, if_pos hk, List.tail_cons, qu_name hn hf]
  exact h m hm
theorem F_q {c : Nat} {ar : List Str} {k n : Str} {g : Fm} (hk : k = "all" ∨ k = "some") (hn : isNameW n = true) (hf : n ∉ ar) (h : GR c (ar ++ [n]) k g) : FR (c + 3) ar (.q k n g) := fun rest he => by
  have e : fmW false (.q k n g) ++ rest = k :: n :: (qW k g ++ rest) := by simp [fmW]
  rw [e]
  refine row1 (c := c + 1) (den_q hk hn hf fun d hcd => ?_) he
  rw [h d hcd [n] (by simp) rest he _ (by rw [List.length_append]; omega)]
  rfl
def bnd0 (f : Fm) : Nat := 4 * ht f + 3
theorem DR.mono {c e : Nat} {ar : List Str} {f : Fm} (h : DR c ar f) (hce : c ≤ e) : DR e ar f := fun rest he d hd => h rest he d (by omega)
theorem FR.mono {c e : Nat} {ar : List Str} {f : Fm} (h : FR c ar f) (hce : c ≤ e) : FR e ar f := fun rest he d hd => h rest he d (by omega)
theorem GR.mono {c e : Nat} {ar : List Str} {k : Str} {f : Fm} (h : GR c ar k f) (hce : c ≤ e) : GR e ar k f := fun d hd => h d (by omega)
theorem F_of_D {c : Nat} {ar : List Str} {f : Fm} (h : DR c ar f) (e : fmW false f = fmW true f) : FR (c + 2) ar f := fun rest he => by
  rw [e]
  exact row1 (fun d hd => h rest he.1 d hd) he
theorem read_all {ar : List Str} {f : Fm} (h : OkF ar f) : DR (bnd0 f) ar f ∧ FR (bnd0 f) ar f ∧ ∀ k, GR (bnd0 f) ar k f := by
  induction h with
  | @cmp ar op l r ho hl hr =>
    have hD : DR 1 ar (.cmp op l r) := D_cmp ho hl hr
    have hF : FR 3 ar (.cmp op l r) := F_of_D hD (by simp [fmW])
    exact ⟨hD.mono (by simp [bnd0]), hF.mono (by simp [bnd0]), fun k => (G_body hF (by simp [qW, fmW])).mono (by simp [bnd0])⟩
  | @no ar f _ ih =>
    have hb : bnd0 (.no f) = bnd0 f + 4 := by simp only [bnd0, ht]; omega
    have hD : DR (bnd0 f + 1) ar (.no f) := D_no ih.1
    have hF : FR (bnd0 f + 3) ar (.no f) := F_of_D hD (by simp [fmW])
    exact ⟨hD.mono (by omega), hF.mono (by omega), fun k => (G_body hF (by simp [qW, fmW])).mono (by omega)⟩
  | @q ar k n f hk hn hf _ ih =>
    have hb : bnd0 (.q k n f) = bnd0 f + 4 := by simp only [bnd0, ht]; omega
    have hF : FR (bnd0 f + 3) ar (.q k n f) := F_q hk hn hf (ih.2.2 k)
    refine ⟨(D_par hF (by simp [fmW])).mono (by omega), hF.mono (by omega), fun k2 => ?_⟩
    by_cases c : k = k2
    · subst c
      exact (G_step hn hf (ih.2.2 k)).mono (by omega)
    · exact (G_body hF (by simp [qW, fmW, c])).mono (by omega)
  | @row ar k fs hk hl _ ih =>
    have hF : FR (4 * hts fs + 3 + 3) ar (.row k fs) := F_row hk hl fun f hf => (ih f hf).1.mono (by have := ht_le hf; simp only [bnd0]; omega)
    have hb : bnd0 (.row k fs) = 4 * hts fs + 7 := by simp only [bnd0, ht]; omega
    exact ⟨(D_par hF (by simp [fmW])).mono (by omega), hF.mono (by omega), fun k2 => (G_body hF (by simp [qW, fmW])).mono (by omega)⟩
theorem end_0 : endF [("" : Str)] := by
  show (hd (_ :: _) ≠ "+" ∧ hd (_ :: _) ≠ "-") ∧ hd (_ :: _) ≠ "and" ∧ hd (_ :: _) ≠ "or"
  rw [hd_cons]
  decide +kernel
/-- ws is read as f, before whatever may stand behind a formula -/
def Reads (c : Nat) (ar : List Str) (ws : List Str) (f : Fm) : Prop := ∀ rest, endF rest → ∀ d, c ≤ d → rowR d "or" ar (ws ++ rest) = .ok f rest
theorem reads_fm {f : Fm} (h : OkF [] f) : Reads (bnd0 f) [] (fmW false f) f := (read_all h).2.1
/-- more parentheses change nothing -/
theorem reads_par {c : Nat} {ar ws : List Str} {f : Fm} (h : Reads c ar ws f) : Reads (c + 3) ar (("(" : Str) :: (ws ++ [(")" : Str)])) f := fun rest he => by
  have e : ("(" : Str) :: (ws ++ [(")" : Str)]) ++ rest = ("(" : Str) :: (ws ++ ((")" : Str) :: rest)) := by simp
  rw [e]
  exact row1 (c := c + 1) (den_par fun d hd => h _ (end_par rest) d hd) he
/-- a whole text -/
theorem reads_whole {c : Nat} {ws : List Str} {f : Fm} (h : Reads c [] ws f) : ∀ n, c ≤ n → readW n (ws ++ [("" : Str)]) = .ok f [("" : Str)] := fun n hn => by
  unfold readW
  rw [h _ end_0 n hn, bind_ok, hd_cons, if_pos rfl]
end Df

/-! ### k12, plain: a text without its last word is refused at its end -/
namespace Df
open PySem
theorem bind_bad {α β : Type} (ws : List Str) (f : α → List Str → An β) : (An.bad ws).bind f = .bad ws := rfl
theorem dl_app {α : Type} (a : List α) {b : List α} (h : b ≠ []) : (a ++ b).dropLast = a ++ b.dropLast := List.dropLast_append_of_ne_nil h
theorem dl_cons {α : Type} (a : α) {b : List α} (h : b ≠ []) : (a :: b).dropLast = a :: b.dropLast := by
  cases b with
  | nil => exact absurd rfl h
  | cons c r => rfl
theorem atomW_ne (a : Str × Int) : atomW a ≠ [] := by
  obtain ⟨x, i⟩ := a
  simp only [atomW]
  split
  · split <;> simp
  · split
    · simp
    · split <;> simp
theorem sepW_ne (k : Str) : ∀ {ws : List (List Str)}, ws ≠ [] → (∀ w ∈ ws, w ≠ []) → sepW k ws ≠ []
  | [], h, _ => absurd rfl h
  | [w], _, h => by simpa [sepW] using h
  | w :: v :: ws, _, h => by simp [sepW]
theorem fmW_ne {ar : List Str} {f : Fm} (h : OkF ar f) : (∀ b, fmW b f ≠ []) ∧ ∀ k, qW k f ≠ [] := by
  cases h with
  | cmp => exact ⟨fun b => by simp [fmW], fun k => by simp [qW]⟩
  | no => exact ⟨fun b => by simp [fmW], fun k => by simp [qW]⟩
  | @q ar k n f => refine ⟨fun b => by simp [fmW], fun k2 => ?_⟩; simp only [qW]; split <;> simp
  | @row ar k fs hk hl hs =>
    refine ⟨fun b => ?_, fun k2 => by simp [qW]⟩
    cases b with
    | true => simp [fmW]
    | false =>
      match fs, hl with
      | f :: g :: fs, _ => simp [fmW, fmsW, sepW]
theorem num0 : isNumW "" = false ∧ isNameW "" = false ∧ isFigsW "" = false := by decide +kernel
theorem termR_cut {a : Str × Int} (h : OkA a) : termR ((atomW a).dropLast ++ [("" : Str)]) = .bad [("" : Str)] := by
  obtain ⟨e1, e2, e3⟩ := num0
  obtain ⟨x, i⟩ := a
  have b0 : numR [("" : Str)] = .bad [("" : Str)] := by
    unfold numR
    rw [hd_cons, if_neg (by rw [e1]; decide)]
  have t0 : termR [("" : Str)] = .bad [("" : Str)] := by
    unfold termR
    rw [hd_cons, if_neg (by decide +kernel), if_neg (by rw [e3]; decide)]
    unfold nameR
    rw [hd_cons, if_neg (by rw [e2]; decide)]
    rfl
  have tm : termR [("-" : Str), ("" : Str)] = .bad [("" : Str)] := by
    unfold termR
    rw [hd_cons, if_pos rfl]
    show (numR [("" : Str)]).bind _ = _
    rw [b0]
    rfl
  rcases h.x with e | hx
  · have e : x = "0" := e
    subst e
    rw [show atomW (("0" : Str), i) = (if i < 0 then [("-" : Str), numW i.natAbs] else [numW i.natAbs]) by simp [atomW]]
    by_cases c : i < 0
    · rw [if_pos c]
      exact tm
    · rw [if_neg c]
      exact t0
  · have hx : isNameW x = true := hx
    obtain ⟨m0, m1, m2, m3, m4, m5, m6, m7, m8, m9, m10⟩ := name_ne hx
    have hnf := name_nofig hx
    have go : ∀ s : Str, s = "+" ∨ s = "-" → termR [x, s, ("" : Str)] = .bad [("" : Str)] := fun s hs => by
      have hb := b0
      unfold termR
      rw [hd_cons, if_neg m1, if_neg (by rw [hnf]; decide)]
      unfold nameR
      rw [hd_cons, if_pos hx, bind_ok]
      show (if hd (s :: [("" : Str)]) = "+" then (numR [("" : Str)]).bind _ else _) = _
      rw [hd_cons]
      rcases hs with rfl | rfl
      · rw [if_pos rfl, hb]
        rfl
      · rw [if_neg (by decide +kernel)]
        show (if ("-" : Str) = "-" then (numR [("" : Str)]).bind _ else _) = _
        rw [if_pos rfl]
        rw [hb]
        rfl
    simp only [atomW, if_neg m0]
    split
    · exact t0
    · split
      · exact go "+" (.inl rfl)
      · exact go "-" (.inr rfl)
theorem cmpR_cut {op : Str} {l r : Str × Int} (ho : op ∈ opsL) (hl : OkA l) (hr : OkA r) : cmpR ((atomW l ++ [op] ++ atomW r).dropLast ++ [("" : Str)]) = .bad [("" : Str)] := by
  rw [dl_app _ (atomW_ne r), List.append_assoc, List.append_assoc]
  unfold cmpR
  have he : endA ([op] ++ ((atomW r).dropLast ++ [("" : Str)])) := ops_ne op ho
  rw [termR_ok hl he, bind_ok]
  show (if opsL.contains (hd (op :: _)) = true then (termR ((atomW r).dropLast ++ [("" : Str)])).bind _ else _) = _
  rw [hd_cons, if_pos (List.contains_iff_mem.mpr ho), termR_cut hr]
  rfl
def E0 : List Str := [("" : Str)]
def XR (c : Nat) (ar : List Str) (f : Fm) : Prop := ∀ d, c ≤ d → denR d ar ((fmW true f).dropLast ++ E0) = .bad E0
def YR (c : Nat) (ar : List Str) (f : Fm) : Prop := ∀ d, c ≤ d → rowR d "or" ar ((fmW false f).dropLast ++ E0) = .bad E0
def ZR (c : Nat) (ar : List Str) (k : Str) (f : Fm) : Prop := ∀ d, c ≤ d → ∀ ns, ns ≠ [] → ∀ m, (qW k f).length < m → quL (fun ar ws => rowR d "or" ar ws) m k ar ns ((qW k f).dropLast ++ E0) = .bad E0
theorem XR.mono {c e : Nat} {ar : List Str} {f : Fm} (h : XR c ar f) (hce : c ≤ e) : XR e ar f := fun d hd => h d (by omega)
theorem YR.mono {c e : Nat} {ar : List Str} {f : Fm} (h : YR c ar f) (hce : c ≤ e) : YR e ar f := fun d hd => h d (by omega)
theorem ZR.mono {c e : Nat} {ar : List Str} {k : Str} {f : Fm} (h : ZR c ar k f) (hce : c ≤ e) : ZR e ar k f := fun d hd => h d (by omega)
/-- a part is refused: so is the row that begins with it -/
theorem row1_bad {c : Nat} {ar : List Str} {ws bs : List Str} (h : ∀ d, c ≤ d → denR d ar ws = .bad bs) : ∀ d, c + 2 ≤ d → rowR d "or" ar ws = .bad bs := fun d hd2 => by
  obtain ⟨m, rfl, hm⟩ := suc (c := c + 1) hd2
  obtain ⟨j, rfl, hj⟩ := suc hm
  have r1 : rowR (j + 1) "and" ar ws = .bad bs := by
    unfold rowR
    rw [if_pos rfl, h j hj]
    rfl
  unfold rowR
  rw [if_neg (by decide +kernel), r1]
  rfl
theorem part_bad {c : Nat} {ar : List Str} {k : Str} {ws bs : List Str} (hk : k = "or" ∨ k = "and") (h : ∀ d, c ≤ d → denR d ar ws = .bad bs) : ∀ d, c + 1 ≤ d → partD d k ar ws = .bad bs := fun d hd1 => by
  obtain ⟨m, rfl, hm⟩ := suc hd1
  rcases hk with rfl | rfl
  · show (if ("or" : Str) = "and" then _ else rowR (m + 1) "and" ar ws) = _
    rw [if_neg (by decide +kernel)]
    unfold rowR
    rw [if_pos rfl, h m hm]
    rfl
  · show (if ("and" : Str) = "and" then denR (m + 1) ar ws else _) = _
    rw [if_pos rfl, h (m + 1) (by omega)]
theorem rest_bad {k : Str} (hk : k = "or" ∨ k = "and") {c d : Nat} (hcd : c + 1 ≤ d) {ar : List Str} : ∀ (fs acc : List Fm), fs ≠ [] → (∀ f ∈ fs, OkF ar f) → (∀ f ∈ fs, PR (c + 1) k ar f) → (∀ f ∈ fs, XR c ar f) →
    ∀ m, fs.length < m → restL (partD d k ar) m k acc ((tailW k fs).dropLast ++ E0) = .bad E0
  | [], _, h, _, _, _ => absurd rfl h
  | [f], acc, _, hO, _, hX => fun n hn => by
    have h := part_bad hk (hX f List.mem_cons_self) d hcd
    obtain ⟨m, rfl, _⟩ := suc (c := 0) (d := n) (by omega)
    have e : (tailW k [f]).dropLast ++ E0 = k :: ((fmW true f).dropLast ++ E0) := by
      show (k :: (fmW true f ++ [])).dropLast ++ E0 = _
      rw [List.append_nil, dl_cons _ ((fmW_ne (hO f List.mem_cons_self)).1 true), List.cons_append]
    rw [e]
    unfold restL
    rw [hd_cons, if_pos rfl, List.tail_cons, h]
    rfl
  | f :: g :: gs, acc, _, hO, hP, hX => fun n hn => by
    obtain ⟨m, rfl, hm⟩ := suc (c := (g :: gs).length + 1) (d := n) (by simp only [List.length_cons] at hn ⊢; omega)
    have hne : tailW k (g :: gs) ≠ [] := by simp [tailW]
    have hdl : (tailW k (g :: gs)).dropLast = k :: (fmW true g ++ tailW k gs).dropLast := by
      rw [show tailW k (g :: gs) = k :: (fmW true g ++ tailW k gs) from rfl, dl_cons]
      intro z
      exact (fmW_ne (hO g (by simp))).1 true (List.append_eq_nil_iff.mp z).1
    have hE : endA ((tailW k (g :: gs)).dropLast ++ E0) ∧ (k = "or" → hd ((tailW k (g :: gs)).dropLast ++ E0) ≠ "and") := by
      rw [hdl, List.cons_append]
      exact kOr hk _
    have h1 := hP f List.mem_cons_self _ hE.1 hE.2 d hcd
    have h2 := rest_bad hk hcd (g :: gs) (f :: acc) (by simp) (fun x hx => hO x (List.mem_cons_of_mem _ hx)) (fun x hx => hP x (List.mem_cons_of_mem _ hx)) (fun x hx => hX x (List.mem_cons_of_mem _ hx)) m (by omega)
    have e : (tailW k (f :: g :: gs)).dropLast ++ E0 = k :: (fmW true f ++ ((tailW k (g :: gs)).dropLast ++ E0)) := by
      show (k :: (fmW true f ++ tailW k (g :: gs))).dropLast ++ E0 = _
      rw [dl_cons _ (by intro z; exact hne (List.append_eq_nil_iff.mp z).2), dl_app _ hne]
      simp
    rw [e]
    unfold restL
    rw [hd_cons, if_pos rfl, List.tail_cons, h1, bind_ok, h2]
theorem Y_row {k : Str} (hk : k = "or" ∨ k = "and") {c : Nat} {ar : List Str} {fs : List Fm} (hl : 2 ≤ fs.length) (hO : ∀ f ∈ fs, OkF ar f) (hD : ∀ f ∈ fs, DR c ar f) (hX : ∀ f ∈ fs, XR c ar f) : YR (c + 3) ar (.row k fs) := by
  have hP : ∀ f ∈ fs, PR (c + 1) k ar f := fun f hf => P_of hk (hD f hf)
  match fs, hl, hO, hX, hP with
  | f :: g :: gs, _, hO, hX, hP =>
    have hne : tailW k (g :: gs) ≠ [] := by simp [tailW]
    have hdl : (tailW k (g :: gs)).dropLast = k :: (fmW true g ++ tailW k gs).dropLast := by
      rw [show tailW k (g :: gs) = k :: (fmW true g ++ tailW k gs) from rfl, dl_cons]
      intro z
      exact (fmW_ne (hO g (by simp))).1 true (List.append_eq_nil_iff.mp z).1
    have hE : endA ((tailW k (g :: gs)).dropLast ++ E0) ∧ (k = "or" → hd ((tailW k (g :: gs)).dropLast ++ E0) ≠ "and") := by
      rw [hdl, List.cons_append]
      exact kOr hk _
    have e : (fmW false (.row k (f :: g :: gs))).dropLast ++ E0 = fmW true f ++ ((tailW k (g :: gs)).dropLast ++ E0) := by
      have : fmW false (.row k (f :: g :: gs)) = fmW true f ++ tailW k (g :: gs) := by
        have := sepW_cons k (g :: gs) (fmW true f)
        simpa [fmW, fmsW] using this
      rw [this, dl_app _ hne]
      simp
    have hr : ∀ d, c + 2 ≤ d → rowR d k ar ((fmW false (.row k (f :: g :: gs))).dropLast ++ E0) = .bad E0 := fun d hd2 => by
      obtain ⟨m, rfl, hm⟩ := suc (c := c + 1) hd2
      have h1 := hP f List.mem_cons_self _ hE.1 hE.2 m hm
      have h2 := rest_bad hk hm (g :: gs) [f] (by simp) (fun x hx => hO x (List.mem_cons_of_mem _ hx)) (fun x hx => hP x (List.mem_cons_of_mem _ hx)) (fun x hx => hX x (List.mem_cons_of_mem _ hx)) (((tailW k (g :: gs)).dropLast ++ E0).length + 1) (by
        have := tailW_len k (g :: gs)
        rw [List.length_append, List.length_dropLast]
        show _ < _ - 1 + 1 + 1
        simp only [List.length_cons] at this ⊢
        omega)
      rw [e]
      unfold rowR
      rw [show (if k = "and" then denR m ar (fmW true f ++ ((tailW k (g :: gs)).dropLast ++ E0)) else rowR m "and" ar (fmW true f ++ ((tailW k (g :: gs)).dropLast ++ E0))) = .ok f _ from h1, bind_ok]
      exact h2
    intro d hd3
    rcases hk with rfl | rfl
    · exact hr d (by omega)
    · obtain ⟨m, rfl, hm⟩ := suc (c := c + 2) hd3
      unfold rowR
      rw [if_neg (by decide +kernel), hr m hm]
      rfl
/-- in parentheses: the closing one lacks -/
theorem X_par {c : Nat} {ar : List Str} {f : Fm} (h : FR c ar f) (e : fmW true f = ("(" : Str) :: (fmW false f ++ [(")" : Str)])) : XR (c + 1) ar f := fun d hd1 => by
  obtain ⟨m, rfl, hm⟩ := suc hd1
  have h := h _ end_0 m hm
  have e2 : (fmW true f).dropLast ++ E0 = ("(" : Str) :: (fmW false f ++ E0) := by
    rw [e, dl_cons _ (by simp), List.dropLast_concat, List.cons_append]
  rw [e2]
  unfold denR
  rw [hd_cons, if_neg (by decide +kernel), if_neg (by decide +kernel), if_pos rfl, List.tail_cons, show rowR m "or" ar (fmW false f ++ E0) = .ok f E0 from h, bind_ok]
  have t : takeR ")" E0 = .bad E0 := by
    unfold takeR
    rw [show hd E0 = "" from rfl, if_neg (by decide +kernel)]
  rw [t]
  rfl
theorem Z_body {c : Nat} {ar : List Str} {k : Str} {f : Fm} (hne : fmW false f ≠ []) (h : YR c ar f) (e : qW k f = (":" : Str) :: fmW false f) : ZR c ar k f := fun d hcd ns hns n hn => by
  obtain ⟨m, rfl, _⟩ := suc (c := 0) (d := n) (by omega)
  rw [e, dl_cons _ hne, List.cons_append]
  unfold quL
  rw [hd_cons, if_pos ⟨hns, rfl⟩, List.tail_cons, h d hcd]
  rfl
theorem cut_all {ar : List Str} {f : Fm} (h : OkF ar f) : XR (bnd0 f) ar f ∧ YR (bnd0 f) ar f ∧ ∀ k, ZR (bnd0 f) ar k f := by
  induction h with
  | @cmp ar op l r ho hl hr =>
    have hX : XR 1 ar (.cmp op l r) := fun d hd1 => by
      obtain ⟨m, rfl, _⟩ := suc hd1
      have hc := cmpR_cut ho hl hr
      have e : fmW true (.cmp op l r) = atomW l ++ [op] ++ atomW r := by simp [fmW]
      rw [e]
      obtain ⟨x, t, ex, h1, h2, h3, h4⟩ := atom_hd hl ([op] ++ (atomW r).dropLast ++ E0)
      have e2 : (atomW l ++ [op] ++ atomW r).dropLast ++ [("" : Str)] = x :: t := by
        rw [dl_app _ (atomW_ne r), ← ex]
        simp [E0]
      show denR (m + 1) ar ((atomW l ++ [op] ++ atomW r).dropLast ++ [("" : Str)]) = _
      rw [e2] at hc ⊢
      unfold denR
      rw [hd_cons, if_neg h1, if_neg (fun z => z.elim h2 h3), if_neg h4, hc]
      rfl
    have hY : YR 3 ar (.cmp op l r) := fun d hd => by
      have := row1_bad hX d hd
      simpa [fmW] using this
    exact ⟨hX.mono (by simp [bnd0]), hY.mono (by simp [bnd0]), fun k => (Z_body (by simp [fmW]) hY (by simp [qW, fmW])).mono (by simp [bnd0])⟩
  | @no ar f h0 ih =>
    have hb : bnd0 (.no f) = bnd0 f + 4 := by simp only [bnd0, ht]; omega
    have hX : XR (bnd0 f + 1) ar (.no f) := fun d hd1 => by
      obtain ⟨m, rfl, hm⟩ := suc hd1
      have e : (fmW true (.no f)).dropLast ++ E0 = ("not" : Str) :: ((fmW true f).dropLast ++ E0) := by
        have : fmW true (.no f) = ("not" : Str) :: fmW true f := by simp [fmW]
        rw [this, dl_cons _ ((fmW_ne h0).1 true), List.cons_append]
      rw [e]
      unfold denR
      rw [hd_cons, if_pos rfl, List.tail_cons, ih.1 m hm]
      rfl
    have hY : YR (bnd0 f + 3) ar (.no f) := fun d hd => by
      have := row1_bad hX d (by omega)
      simpa [fmW] using this
    exact ⟨hX.mono (by omega), hY.mono (by omega), fun k => (Z_body (by simp [fmW]) hY (by simp [qW, fmW])).mono (by omega)⟩
  | @q ar k n f hk hn hf h0 ih =>
    have hb : bnd0 (.q k n f) = bnd0 f + 4 := by simp only [bnd0, ht]; omega
    have hF : FR (bnd0 f + 3) ar (.q k n f) := F_q hk hn hf ((read_all h0).2.2 k)
    have hY : YR (bnd0 f + 3) ar (.q k n f) := fun d hd => by
      have e : (fmW false (.q k n f)).dropLast ++ E0 = k :: n :: ((qW k f).dropLast ++ E0) := by
        have : fmW false (.q k n f) = k :: n :: qW k f := by simp [fmW]
        rw [this, dl_cons _ (by simp), dl_cons _ ((fmW_ne h0).2 k)]
        rfl
      rw [e]
      refine row1_bad (c := bnd0 f + 1) (den_q hk hn hf fun d hd => ih.2.2 k d hd [n] (by simp) _ ?_) d (by omega)
      rw [List.length_append, List.length_dropLast]
      show _ < _ - 1 + 1 + 2
      omega
    refine ⟨(X_par hF (by simp [fmW])).mono (by omega), hY.mono (by omega), fun k2 => ?_⟩
    by_cases c : k = k2
    · subst c
      intro d hcd ns hns n2 hn2
      have hd : bnd0 f ≤ d := by omega
      have e0 : qW k (.q k n f) = n :: qW k f := by simp [qW]
      rw [e0] at hn2 ⊢
      obtain ⟨m, rfl, hm⟩ := suc (c := (qW k f).length + 1) (d := n2) (by simp only [List.length_cons] at hn2; omega)
      rw [dl_cons _ ((fmW_ne h0).2 k), List.cons_append, qu_name hn hf, ih.2.2 k d hd (n :: ns) (by simp) m (by omega)]
    · exact (Z_body (by simp [fmW]) hY (by simp [qW, fmW, c])).mono (by omega)
  | @row ar k fs hk hl hs ih =>
    have hb : bnd0 (.row k fs) = 4 * hts fs + 7 := by simp only [bnd0, ht]; omega
    have hD : ∀ f ∈ fs, DR (4 * hts fs + 3) ar f := fun f hf => (read_all (hs f hf)).1.mono (by have := ht_le hf; simp only [bnd0]; omega)
    have hF : FR (4 * hts fs + 3 + 3) ar (.row k fs) := F_row hk hl hD
    have hY : YR (4 * hts fs + 3 + 3) ar (.row k fs) := Y_row hk hl hs hD fun f hf => (ih f hf).1.mono (by have := ht_le hf; simp only [bnd0]; omega)
    exact ⟨(X_par hF (by simp [fmW])).mono (by omega), hY.mono (by omega), fun k2 => (Z_body ((fmW_ne (.row hk hl hs)).1 false) hY (by simp [qW, fmW])).mono (by omega)⟩
/-- a formula without its last word is refused at its end -/
theorem cut_bad {f : Fm} (h : OkF [] f) : ∀ n, bnd0 f ≤ n → readW n ((fmW false f).dropLast ++ [("" : Str)]) = .bad [("" : Str)] := fun n hn => by
  unfold readW
  rw [show (fmW false f).dropLast ++ [("" : Str)] = (fmW false f).dropLast ++ E0 from rfl, (cut_all h).2.1 n hn]
  rfl
/-- a formula with a further word that can't follow is refused at this word -/
theorem more_bad {f : Fm} (h : OkF [] f) : ∀ n, bnd0 f ≤ n → readW n (fmW false f ++ [(")" : Str), ("" : Str)]) = .bad [(")" : Str), ("" : Str)] := fun n hn => by
  unfold readW
  rw [(read_all h).2.1 _ (end_par _) n hn, bind_ok, hd_cons, if_neg (by decide +kernel)]
end Df

/-! ### k12, plain: texts (as signs) and their words -/
namespace Df
open PySem
def pairOp (a b : Nat) : Bool := b == 61 && (a == 60 || (a == 62 || a == 33))
def oneSign (a : Nat) : Bool := [60, 62, 61, 58, 40, 41, 43, 45].contains a
/-- signs of the kind of the first one: small letters, or figures -/
def runC (a : Nat) (cs : List Nat) : Nat := if isSmall a then (cs.takeWhile isSmall).length else (cs.takeWhile isFig).length
/-- the length of the word in front; 0: no word -/
def lenC : List Nat → Nat
  | [] => 0
  | [a] => if a == 61 || (a == 60 || a == 62) then 2 else if oneSign a then 1 else runC a [a]
  | a :: b :: r => if pairOp a b then 2 else if oneSign a then 1 else runC a (a :: b :: r)
/-- the words of the signs behind place i, with their places; or the place of no word -/
def lexC : Nat → Nat → List Nat → List (List Nat × Nat) ⊕ Nat
  | 0, i, _ => .inr i
  | _ + 1, _, [] => .inl []
  | n + 1, i, c :: cs =>
    if c = 32 then lexC n (i + 1) cs
    else match lenC (c :: cs) with
      | 0 => .inr i
      | k + 1 => match lexC n (i + (k + 1)) ((c :: cs).drop (k + 1)) with
        | .inl ws => .inl (((c :: cs).take (k + 1), i) :: ws)
        | .inr j => .inr j
def csS (x : Str) : List Nat := x.cps.toList
/-- the signs of an atom -/
def atomC : Str × Int → List Nat
  | (x, i) => if x = "0" then (if i < 0 then 45 :: csS (numW i.natAbs) else csS (numW i.natAbs)) else if i = 0 then csS x else csS x ++ (if 0 < i then [32, 43, 32] else [32, 45, 32]) ++ csS (numW i.natAbs)
def sepC (k : Str) : List (List Nat) → List Nat
  | [] => []
  | [w] => w
  | w :: ws => w ++ (32 :: csS k ++ [32]) ++ sepC k ws
mutual
/-- the signs of a formula -/
def fmC : Bool → Fm → List Nat
  | _, .cmp op l r => atomC l ++ (32 :: csS op ++ [32]) ++ atomC r
  | _, .no f => csS "not " ++ fmC true f
  | b, .q k n f => (if b then [40] else []) ++ csS k ++ (32 :: csS n) ++ qC k f ++ (if b then [41] else [])
  | b, .row k fs => (if b then [40] else []) ++ sepC k (fmsC fs) ++ (if b then [41] else [])
def qC : Str → Fm → List Nat
  | k, .q k2 n f => if k2 = k then 32 :: csS n ++ qC k f else 58 :: 32 :: (csS k2 ++ (32 :: csS n) ++ qC k2 f)
  | _, .cmp op l r => 58 :: 32 :: (atomC l ++ (32 :: csS op ++ [32]) ++ atomC r)
  | _, .no f => 58 :: 32 :: (csS "not " ++ fmC true f)
  | _, .row k2 fs => 58 :: 32 :: sepC k2 (fmsC fs)
def fmsC : List Fm → List (List Nat)
  | [] => []
  | f :: fs => fmC true f :: fmsC fs
end
def lexOk (t : Fm) : Bool := match lexC 1000 0 (fmC false t) with
  | .inl ws => decide (ws.map (·.1) = (fmW false t).map csS)
  | .inr _ => false
theorem lex1 : lexOk t1 = true := by decide +kernel
theorem lex2 : lexOk a0 = true := by decide +kernel
theorem lex3 : lexOk (.row "and" [t1, a0, .no t1]) = true := by decide +kernel
end Df

namespace Df
open PySem
/-- the signs cs have the words ws -/
inductive Sep : List Nat → List (List Nat) → Prop where
  | nil : Sep [] []
  | blank {cs : List Nat} {ws : List (List Nat)} (h : Sep cs ws) : Sep (32 :: cs) ws
  | word {w cs : List Nat} {ws : List (List Nat)} (hw : w ≠ []) (h32 : w.head? ≠ some 32) (hl : lenC (w ++ cs) = w.length) (h : Sep cs ws) : Sep (w ++ cs) (w :: ws)
theorem lex_sep {cs : List Nat} {ws : List (List Nat)} (h : Sep cs ws) : ∃ N, ∀ n, N ≤ n → ∀ i, ∃ ps, lexC n i cs = .inl ps ∧ ps.map (·.1) = ws := by
  induction h with
  | nil =>
    refine ⟨1, fun n hn i => ?_⟩
    obtain ⟨m, rfl⟩ : ∃ m, n = m + 1 := ⟨n - 1, by omega⟩
    exact ⟨[], rfl, rfl⟩
  | @blank cs ws _ ih =>
    obtain ⟨N, ih⟩ := ih
    refine ⟨N + 1, fun n hn i => ?_⟩
    obtain ⟨m, rfl⟩ : ∃ m, n = m + 1 := ⟨n - 1, by omega⟩
    obtain ⟨ps, h1, h2⟩ := ih m (by omega) (i + 1)
    refine ⟨ps, ?_, h2⟩
    unfold lexC
    rw [if_pos rfl, h1]
  | @word w cs ws hw h32 hl _ ih =>
    obtain ⟨N, ih⟩ := ih
    refine ⟨N + 1, fun n hn i => ?_⟩
    obtain ⟨m, rfl⟩ : ∃ m, n = m + 1 := ⟨n - 1, by omega⟩
    obtain ⟨ps, h1, h2⟩ := ih m (by omega) (i + w.length)
    match w, hw, h32, hl, h1 with
    | c :: r, _, h32, hl, h1 =>
      have hc : c ≠ 32 := fun z => h32 (by rw [z]; rfl)
      refine ⟨(c :: r, i) :: ps, ?_, by rw [List.map_cons, h2]⟩
      rw [List.cons_append] at hl ⊢
      unfold lexC
      rw [if_neg hc, hl, List.length_cons]
      have e1 : (c :: (r ++ cs)).drop (r.length + 1) = cs := by rw [← List.cons_append, ← List.length_cons, List.drop_left]
      have e2 : (c :: (r ++ cs)).take (r.length + 1) = c :: r := by rw [← List.cons_append, ← List.length_cons, List.take_left]
      simp only [e1, e2]
      rw [List.length_cons] at h1
      rw [h1]
/-- what may stand behind a name or a number -/
def bnd (cs : List Nat) : Prop := cs = [] ∨ ∃ r, cs = 32 :: r ∨ cs = 41 :: r ∨ cs = 58 :: r
theorem bnd_stop {cs : List Nat} (h : bnd cs) : cs.takeWhile isSmall = [] ∧ cs.takeWhile isFig = [] ∧ cs.head? ≠ some 61 := by
  rcases h with rfl | ⟨r, rfl | rfl | rfl⟩
  · exact ⟨rfl, rfl, by simp⟩
  · exact ⟨rfl, rfl, by simp⟩
  · exact ⟨rfl, rfl, by simp⟩
  · exact ⟨rfl, rfl, by simp⟩
theorem tw_all {p : Nat → Bool} : ∀ {w cs : List Nat}, w.all p = true → cs.takeWhile p = [] → (w ++ cs).takeWhile p = w
  | [], _, _, h => h
  | c :: r, cs, h, h2 => by
    rw [List.all_cons, Bool.and_eq_true] at h
    rw [List.cons_append, List.takeWhile_cons, if_pos h.1, tw_all h.2 h2]
theorem small_one {c : Nat} (h : isSmall c = true) : oneSign c = false ∧ c ≠ 61 ∧ c ≠ 60 ∧ c ≠ 62 ∧ c ≠ 33 ∧ c ≠ 32 := by
  unfold isSmall at h
  simp only [Bool.and_eq_true, decide_eq_true_eq] at h
  refine ⟨?_, by omega, by omega, by omega, by omega, by omega⟩
  unfold oneSign
  simp
  omega
theorem fig_one {c : Nat} (h : isFig c = true) : oneSign c = false ∧ isSmall c = false ∧ c ≠ 61 ∧ c ≠ 60 ∧ c ≠ 62 ∧ c ≠ 33 ∧ c ≠ 32 := by
  unfold isFig at h
  simp only [Bool.and_eq_true, decide_eq_true_eq] at h
  refine ⟨?_, ?_, by omega, by omega, by omega, by omega, by omega⟩
  · unfold oneSign
    simp
    omega
  · unfold isSmall
    simp
    omega
theorem pair_no {a b : Nat} (h1 : a ≠ 60) (h2 : a ≠ 62) (h3 : a ≠ 33) : pairOp a b = false := by
  unfold pairOp
  simp [h1, h2, h3]
theorem lenC2 (a b : Nat) (r : List Nat) : lenC (a :: b :: r) = if pairOp a b = true then 2 else if oneSign a = true then 1 else runC a (a :: b :: r) := rfl
/-- the length of what is neither a pair nor one sign -/
theorem len_run {a : Nat} {cs : List Nat} (ho : oneSign a = false) (h0 : a ≠ 61) (h1 : a ≠ 60) (h2 : a ≠ 62) (h3 : a ≠ 33) : lenC (a :: cs) = runC a (a :: cs) := by
  cases cs with
  | nil =>
    unfold lenC
    simp [h0, h1, h2, ho]
  | cons b r =>
    rw [lenC2, pair_no h1 h2 h3, ho]
    simp
theorem sep_name {w cs : List Nat} {ws : List (List Nat)} (hw : w ≠ []) (ha : w.all isSmall = true) (hb : bnd cs) (h : Sep cs ws) : Sep (w ++ cs) (w :: ws) := by
  match w, hw, ha with
  | c :: r, hw, ha =>
    have ha' := ha
    rw [List.all_cons, Bool.and_eq_true] at ha
    obtain ⟨h1, h2, h3, h4, h5, h6⟩ := small_one ha.1
    refine .word hw (by simpa using h6) ?_ h
    rw [List.cons_append, len_run h1 h2 h3 h4 h5]
    unfold runC
    rw [if_pos ha.1, ← List.cons_append, tw_all ha' (bnd_stop hb).1]
theorem sep_num {w cs : List Nat} {ws : List (List Nat)} (hw : w ≠ []) (ha : w.all isFig = true) (hb : bnd cs) (h : Sep cs ws) : Sep (w ++ cs) (w :: ws) := by
  match w, hw, ha with
  | c :: r, hw, ha =>
    have ha' := ha
    rw [List.all_cons, Bool.and_eq_true] at ha
    obtain ⟨h1, h0, h2, h3, h4, h5, h6⟩ := fig_one ha.1
    refine .word hw (by simpa using h6) ?_ h
    rw [List.cons_append, len_run h1 h2 h3 h4 h5]
    unfold runC
    rw [h0, if_neg (by decide), ← List.cons_append, tw_all ha' (bnd_stop hb).2.1]
/-- ( ) : + - -/
theorem sep_one {c : Nat} (hc : c ∈ [40, 41, 58, 43, 45]) {cs : List Nat} {ws : List (List Nat)} (h : Sep cs ws) : Sep (c :: cs) ([c] :: ws) := by
  refine Sep.word (w := [c]) (by simp) ?_ ?_ h
  · simp only [List.mem_cons, List.not_mem_nil, or_false] at hc
    rcases hc with rfl | rfl | rfl | rfl | rfl <;> decide
  · simp only [List.mem_cons, List.not_mem_nil, or_false] at hc
    cases cs with
    | nil => rcases hc with rfl | rfl | rfl | rfl | rfl <;> decide
    | cons b r =>
      show lenC (c :: b :: r) = 1
      rcases hc with rfl | rfl | rfl | rfl | rfl <;> (rw [lenC2, pair_no (by decide) (by decide) (by decide)]; rfl)
theorem sep_op {o : Str} (ho : o ∈ opsL) {cs : List Nat} {ws : List (List Nat)} (h : Sep cs ws) : Sep (csS o ++ (32 :: cs)) (csS o :: ws) := by
  refine .word ?_ ?_ ?_ (.blank h)
  · revert o; decide +kernel
  · revert o; decide +kernel
  · simp only [opsL, List.mem_cons, List.not_mem_nil, or_false] at ho
    rcases ho with rfl | rfl | rfl | rfl | rfl | rfl <;> rfl
end Df

namespace Df
open PySem
theorem csS_name {x : Str} (h : isNameW x = true) : csS x ≠ [] ∧ (csS x).all isSmall = true := by
  unfold isNameW at h
  simp only [Bool.and_eq_true, decide_eq_true_eq] at h
  refine ⟨fun z => ?_, h.2.2.1⟩
  have : x.length = 0 := by
    show x.cps.size = 0
    rw [← Array.length_toList]
    show (csS x).length = 0
    rw [z]
    rfl
  omega
theorem csS_num : ∀ n ≤ 9, csS (numW n) ≠ [] ∧ (csS (numW n)).all isFig = true := by decide +kernel
theorem bnd32 (cs : List Nat) : bnd (32 :: cs) := .inr ⟨cs, .inl rfl⟩
theorem bnd41 (cs : List Nat) : bnd (41 :: cs) := .inr ⟨cs, .inr (.inl rfl)⟩
theorem bnd58 (cs : List Nat) : bnd (58 :: cs) := .inr ⟨cs, .inr (.inr rfl)⟩
theorem cs_minus : csS "-" = [45] := by decide +kernel
theorem cs_plus : csS "+" = [43] := by decide +kernel
theorem sep_atom {a : Str × Int} (h : OkA a) {cs : List Nat} {us : List (List Nat)} (hb : bnd cs) (hs : Sep cs us) : Sep (atomC a ++ cs) ((atomW a).map csS ++ us) := by
  obtain ⟨x, i⟩ := a
  have hi : i.natAbs ≤ 9 := h.i
  obtain ⟨m1, m2⟩ := csS_num _ hi
  have hn := sep_num m1 m2 hb hs
  rcases h.x with e | hx
  · have e : x = "0" := e
    subst e
    by_cases c : i < 0
    · have := sep_one (c := 45) (by decide) hn
      simpa [atomC, atomW, c, cs_minus] using this
    · simpa [atomC, atomW, c] using hn
  · have hx : isNameW x = true := hx
    have m0 := (name_ne hx).1
    obtain ⟨k1, k2⟩ := csS_name hx
    by_cases c : i = 0
    · have := sep_name k1 k2 hb hs
      simpa [atomC, atomW, m0, c] using this
    · by_cases c2 : 0 < i
      · have := sep_name k1 k2 (bnd32 _) (.blank (sep_one (c := 43) (by decide) (.blank hn)))
        simpa [atomC, atomW, m0, c, c2, cs_minus, cs_plus] using this
      · have := sep_name k1 k2 (bnd32 _) (.blank (sep_one (c := 45) (by decide) (.blank hn)))
        simpa [atomC, atomW, m0, c, c2, cs_minus, cs_plus] using this
def SR (b : Bool) (f : Fm) : Prop := ∀ cs us, bnd cs → Sep cs us → Sep (fmC b f ++ cs) ((fmW b f).map csS ++ us)
def QR (k : Str) (f : Fm) : Prop := ∀ cs us, bnd cs → Sep cs us → Sep (qC k f ++ cs) ((qW k f).map csS ++ us)
theorem S_cmp {op : Str} {l r : Str × Int} (ho : op ∈ opsL) (hl : OkA l) (hr : OkA r) (b : Bool) : SR b (.cmp op l r) := fun cs us hb hs => by
  have := sep_atom hl (bnd32 _) (.blank (sep_op ho (sep_atom hr hb hs)))
  simpa [fmC, fmW] using this
theorem kw_ok : ∀ k ∈ (["all", "some", "not", "and", "or"] : List Str), csS k ≠ [] ∧ (csS k).all isSmall = true := by decide +kernel
theorem not_eq : csS "not " = csS "not" ++ [32] := by decide +kernel
theorem S_no {f : Fm} (h : SR true f) (b : Bool) : SR b (.no f) := fun cs us hb hs => by
  obtain ⟨k1, k2⟩ := kw_ok "not" (by decide +kernel)
  have := sep_name k1 k2 (bnd32 _) (.blank (h cs us hb hs))
  simpa [fmC, fmW, not_eq] using this
theorem S_sep {k : Str} (hk : k = "or" ∨ k = "and") : ∀ (fs : List Fm), fs ≠ [] → (∀ f ∈ fs, SR true f) → ∀ cs us, bnd cs → Sep cs us → Sep (sepC k (fmsC fs) ++ cs) ((sepW k (fmsW fs)).map csS ++ us)
  | [], h, _ => absurd rfl h
  | [f], _, h => fun cs us hb hs => by
    have := h f List.mem_cons_self cs us hb hs
    simpa [fmsC, fmsW, sepC, sepW] using this
  | f :: g :: fs, _, h => fun cs us hb hs => by
    obtain ⟨k1, k2⟩ := kw_ok k (by rcases hk with rfl | rfl <;> decide +kernel)
    have ih := S_sep hk (g :: fs) (by simp) (fun x hx => h x (List.mem_cons_of_mem _ hx)) cs us hb hs
    have := h f List.mem_cons_self _ _ (bnd32 _) (.blank (sep_name k1 k2 (bnd32 _) (.blank ih)))
    simpa [fmsC, fmsW, sepC, sepW] using this
theorem S_par {f : Fm} (h : SR false f) (e : fmC true f = 40 :: (fmC false f ++ [41])) (e2 : fmW true f = ("(" : Str) :: (fmW false f ++ [(")" : Str)])) : SR true f := fun cs us hb hs => by
  have p1 : csS "(" = [40] := by decide +kernel
  have p2 : csS ")" = [41] := by decide +kernel
  have := sep_one (c := 40) (by decide) (h _ _ (bnd41 _) (sep_one (c := 41) (by decide) hs))
  rw [e, e2]
  simpa [p1, p2] using this
theorem Q_body {k : Str} {f : Fm} (h : SR false f) (e : qC k f = 58 :: 32 :: fmC false f) (e2 : qW k f = (":" : Str) :: fmW false f) : QR k f := fun cs us hb hs => by
  have p : csS ":" = [58] := by decide +kernel
  have := sep_one (c := 58) (by decide) (.blank (h _ _ hb hs))
  rw [e, e2]
  simpa [p] using this
theorem q_bnd (k : Str) (f : Fm) (cs : List Nat) : bnd (qC k f ++ cs) := by
  cases f with
  | cmp => exact bnd58 _
  | no => exact bnd58 _
  | row => exact bnd58 _
  | q k2 n g =>
    by_cases c : k2 = k
    · simp only [qC, if_pos c]
      exact bnd32 _
    · simp only [qC, if_neg c]
      exact bnd58 _
theorem sep_all {ar : List Str} {f : Fm} (h : OkF ar f) : (∀ b, SR b f) ∧ ∀ k, QR k f := by
  induction h with
  | cmp ho hl hr => exact ⟨S_cmp ho hl hr, fun k => Q_body (S_cmp ho hl hr false) (by simp [qC, fmC]) (by simp [qW, fmW])⟩
  | no _ ih => exact ⟨S_no (ih.1 true), fun k => Q_body (S_no (ih.1 true) false) (by simp [qC, fmC]) (by simp [qW, fmW])⟩
  | @q ar k n f hk hn hf _ ih =>
    obtain ⟨a1, a2⟩ := csS_name hn
    obtain ⟨k1, k2⟩ := kw_ok k (by rcases hk with rfl | rfl <;> decide +kernel)
    have hF : SR false (.q k n f) := fun cs us hb hs => by
      have := sep_name k1 k2 (bnd32 _) (.blank (sep_name a1 a2 (q_bnd k f cs) (ih.2 k cs us hb hs)))
      simpa [fmC, fmW] using this
    refine ⟨fun b => by
      cases b with
      | false => exact hF
      | true => exact S_par hF (by simp [fmC]) (by simp [fmW]), fun kk => ?_⟩
    by_cases c : k = kk
    · subst c
      intro cs us hb hs
      have := Sep.blank (sep_name a1 a2 (q_bnd k f cs) (ih.2 k cs us hb hs))
      simpa [qC, qW] using this
    · exact Q_body hF (by simp [qC, fmC, c]) (by simp [qW, fmW, c])
  | @row ar k fs hk hl _ ih =>
    have hF : SR false (.row k fs) := fun cs us hb hs => by
      have := S_sep hk fs (by intro z; rw [z] at hl; simp at hl) (fun f hf => (ih f hf).1 true) cs us hb hs
      simpa [fmC, fmW] using this
    exact ⟨fun b => by
      cases b with
      | false => exact hF
      | true => exact S_par hF (by simp [fmC]) (by simp [fmW]), fun kk => Q_body hF (by simp [qC, fmC]) (by simp [qW, fmW])⟩
/-- the signs of a formula have its words -/
theorem lex_fm {f : Fm} (h : OkF [] f) : ∃ N, ∀ n, N ≤ n → ∀ i, ∃ ps, lexC n i (fmC false f) = .inl ps ∧ ps.map (·.1) = (fmW false f).map csS := by
  have := (sep_all h).1 false [] [] (.inl rfl) .nil
  rw [List.append_nil, List.append_nil] at this
  exact lex_sep this
end Df

namespace Df
open PySem
/-- more blanks: what stands around a word may begin with a blank instead -/
inductive Wide : List Nat → List Nat → Prop where
  | nil : Wide [] []
  | same {c : Nat} {cs ds : List Nat} (h : Wide cs ds) : Wide (c :: cs) (c :: ds)
  | blank {cs ds : List Nat} (h : Wide cs ds) : Wide (32 :: cs) (32 :: 32 :: ds)
/-- the signs of a word that stands alone: ( and ) -/
theorem sep_wide40 {cs : List Nat} {ws : List (List Nat)} (h : Sep cs ws) : Sep (32 :: 40 :: 32 :: cs) ([40] :: ws) := .blank (sep_one (by decide) (.blank h))
theorem sep_wide41 {cs : List Nat} {ws : List (List Nat)} (h : Sep cs ws) : Sep (32 :: 41 :: 32 :: cs) ([41] :: ws) := .blank (sep_one (by decide) (.blank h))
/-- two more blanks in front -/
theorem sep_blanks {cs : List Nat} {ws : List (List Nat)} (h : Sep cs ws) : ∀ n : Nat, Sep (List.replicate n 32 ++ cs) ws
  | 0 => h
  | n + 1 => by
    rw [List.replicate_succ, List.cons_append]
    exact .blank (sep_blanks h n)
theorem csS_inj {x y : Str} (h : csS x = csS y) : x = y := by
  cases x with
  | mk a =>
    cases y with
    | mk b =>
      have : a = b := Array.toList_inj.mp h
      rw [this]
end Df

namespace Df
open PySem
theorem lenC1 (a : Nat) : lenC [a] = if (a == 61 || (a == 60 || a == 62)) = true then 2 else if oneSign a = true then 1 else runC a [a] := rfl
theorem tw_stop {p : Nat → Bool} (hp : p 32 = false) : ∀ {w cs ds : List Nat}, ((w ++ cs).takeWhile p).length = w.length → (ds.head? = cs.head? ∨ ds.head? = some 32) → ((w ++ ds).takeWhile p).length = w.length
  | [], cs, ds, h, hd => by
    rw [List.nil_append] at h ⊢
    cases ds with
    | nil => rfl
    | cons d r =>
      have : p d = false := by
        rcases hd with e | e
        · cases cs with
          | nil => cases e
          | cons c t =>
            have e : d = c := by simpa using e
            subst e
            cases q : p d with
            | false => rfl
            | true => rw [List.takeWhile_cons, if_pos q] at h; simp at h
        · have e : d = 32 := by simpa using e
          rw [e, hp]
      rw [List.takeWhile_cons, this]
      rfl
  | a :: w, cs, ds, h, hd => by
    rw [List.cons_append, List.takeWhile_cons] at h ⊢
    cases q : p a with
    | false => rw [q] at h; simp at h
    | true =>
      rw [q] at h
      have h' : ((w ++ cs).takeWhile p).length = w.length := by simpa using h
      have := tw_stop hp h' hd
      simpa using this
theorem run_stop {a : Nat} {w cs ds : List Nat} (h : runC a (a :: w ++ cs) = (a :: w).length) (hd : ds.head? = cs.head? ∨ ds.head? = some 32) : runC a (a :: w ++ ds) = (a :: w).length := by
  unfold runC at h ⊢
  split
  · rename_i c
    rw [if_pos c] at h
    exact tw_stop (w := a :: w) (by decide) h hd
  · rename_i c
    rw [if_neg c] at h
    exact tw_stop (w := a :: w) (by decide) h hd
/-- a word ends where it ended, if what is behind it begins alike, or with a blank -/
theorem len_stop {w cs ds : List Nat} (hw : w ≠ []) (hl : lenC (w ++ cs) = w.length) (hd : ds.head? = cs.head? ∨ ds.head? = some 32) : lenC (w ++ ds) = w.length := by
  match w, hw, hl with
  | [a], _, hl =>
    cases ds with
    | nil =>
      have : cs = [] := by
        cases cs with
        | nil => rfl
        | cons c t => rcases hd with e | e <;> cases e
      rw [this] at hl
      exact hl
    | cons d r =>
      show lenC (a :: d :: r) = 1
      rw [lenC2]
      have hp : pairOp a d = false := by
        rcases hd with e | e
        · cases cs with
          | nil => cases e
          | cons c t =>
            have e : d = c := by simpa using e
            subst e
            cases q : pairOp a d with
            | false => rfl
            | true =>
              have hl : lenC (a :: d :: t) = 1 := hl
              rw [lenC2, q] at hl
              simp at hl
        · have e : d = 32 := by simpa using e
          rw [e]
          rfl
      rw [hp, if_neg (by decide)]
      split
      · rfl
      · rename_i ho
        refine run_stop (w := []) (cs := cs) ?_ hd
        cases cs with
        | nil =>
          have hl : lenC [a] = 1 := hl
          rw [lenC1] at hl
          cases q2 : (a == 61 || (a == 60 || a == 62)) with
          | true => rw [q2] at hl; simp at hl
          | false =>
            rw [q2, if_neg (by decide), if_neg ho] at hl
            exact hl
        | cons c t =>
          have hl : lenC (a :: c :: t) = 1 := hl
          rw [lenC2] at hl
          cases q2 : pairOp a c with
          | true => rw [q2] at hl; simp at hl
          | false =>
            rw [q2, if_neg (by decide), if_neg ho] at hl
            exact hl
  | a :: b :: w, _, hl =>
    have hl : lenC (a :: b :: (w ++ cs)) = (a :: b :: w).length := hl
    show lenC (a :: b :: (w ++ ds)) = (a :: b :: w).length
    rw [lenC2] at hl ⊢
    split
    · rename_i hp
      rw [if_pos hp] at hl
      exact hl
    · rename_i hp
      rw [if_neg hp] at hl
      split
      · rename_i ho
        rw [if_pos ho] at hl
        exact hl
      · rename_i ho
        rw [if_neg ho] at hl
        exact run_stop (w := b :: w) hl hd
/-- the law's text with more blanks: each sign by itself -/
def wideF (c : Nat) : List Nat := if c = 32 then [32, 32, 32] else if c = 40 then [32, 40, 32] else if c = 41 then [32, 41, 32] else [c]
def plainW (w : List Nat) : Prop := ∀ c ∈ w, c ≠ 32 ∧ c ≠ 40 ∧ c ≠ 41
theorem wide_plain : ∀ {w : List Nat}, plainW w → w.flatMap wideF = w
  | [], _ => rfl
  | c :: w, h => by
    obtain ⟨h1, h2, h3⟩ := h c List.mem_cons_self
    rw [List.flatMap_cons, wide_plain fun x hx => h x (List.mem_cons_of_mem _ hx)]
    simp [wideF, h1, h2, h3]
theorem wide_head (cs : List Nat) : (cs.flatMap wideF).head? = cs.head? ∨ (cs.flatMap wideF).head? = some 32 := by
  cases cs with
  | nil => exact .inl rfl
  | cons c r =>
    rw [List.flatMap_cons]
    unfold wideF
    by_cases h1 : c = 32
    · rw [if_pos h1]; exact .inr rfl
    · rw [if_neg h1]
      by_cases h2 : c = 40
      · rw [if_pos h2]; exact .inr rfl
      · rw [if_neg h2]
        by_cases h3 : c = 41
        · rw [if_pos h3]; exact .inr rfl
        · rw [if_neg h3]; exact .inl rfl
theorem sep_wide {cs : List Nat} {ws : List (List Nat)} (h : Sep cs ws) : (∀ w ∈ ws, plainW w ∨ w = [40] ∨ w = [41]) → Sep (cs.flatMap wideF) ws := by
  induction h with
  | nil => exact fun _ => .nil
  | @blank cs ws _ ih => exact fun hp => .blank (.blank (.blank (ih hp)))
  | @word w cs ws hw h32 hl _ ih =>
    intro hp
    have ih := ih fun x hx => hp x (List.mem_cons_of_mem _ hx)
    rw [List.flatMap_append]
    rcases hp w List.mem_cons_self with h | rfl | rfl
    · rw [wide_plain h]
      exact .word hw h32 (len_stop hw hl (wide_head cs)) ih
    · exact sep_wide40 ih
    · exact sep_wide41 ih
end Df

namespace Df
open PySem
def pw (w : List Nat) : Prop := plainW w ∨ w = [40] ∨ w = [41]
def pwB (w : List Nat) : Bool := (w.all fun c => c != 32 && (c != 40 && c != 41)) || (w == [40] || w == [41])
theorem pw_of {w : List Nat} (h : pwB w = true) : pw w := by
  unfold pwB at h
  simp only [Bool.or_eq_true, List.all_eq_true, Bool.and_eq_true, bne_iff_ne, beq_iff_eq] at h
  rcases h with h | h | h
  · exact .inl fun c hc => ⟨(h c hc).1, (h c hc).2.1, (h c hc).2.2⟩
  · exact .inr (.inl h)
  · exact .inr (.inr h)
theorem pw_small {w : List Nat} (h : w.all isSmall = true) : pw w := .inl fun c hc => by
  have := List.all_eq_true.mp h c hc
  unfold isSmall at this
  simp only [Bool.and_eq_true, decide_eq_true_eq] at this
  omega
theorem pw_fig {w : List Nat} (h : w.all isFig = true) : pw w := .inl fun c hc => by
  have := List.all_eq_true.mp h c hc
  unfold isFig at this
  simp only [Bool.and_eq_true, decide_eq_true_eq] at this
  omega
/-- words of formulas -/
def PW (ws : List Str) : Prop := ∀ x ∈ ws, pw (csS x)
theorem PW.app {a b : List Str} (h : PW a) (g : PW b) : PW (a ++ b) := fun x hx => (List.mem_append.mp hx).elim (h x) (g x)
theorem PW.cons {x : Str} {b : List Str} (h : pw (csS x)) (g : PW b) : PW (x :: b) := fun y hy => (List.mem_cons.mp hy).elim (fun e => e ▸ h) (g y)
theorem PW.nil : PW [] := fun x hx => by cases hx
theorem pw_consts : ∀ x ∈ (["(", ")", ":", "+", "-", "not", "all", "some", "and", "or", "<=", ">=", "!=", "=", "<", ">"] : List Str), pwB (csS x) = true := by decide +kernel
theorem pc {x : Str} (h : x ∈ (["(", ")", ":", "+", "-", "not", "all", "some", "and", "or", "<=", ">=", "!=", "=", "<", ">"] : List Str)) : pw (csS x) := pw_of (pw_consts x h)
theorem pw_ops : ∀ x ∈ opsL, pwB (csS x) = true := by decide +kernel
theorem PW_atom {a : Str × Int} (h : OkA a) : PW (atomW a) := by
  obtain ⟨x, i⟩ := a
  have hn : pw (csS (numW i.natAbs)) := pw_fig (csS_num _ h.i).2
  have m1 : pw (csS "-") := pc (by decide +kernel)
  have m2 : pw (csS "+") := pc (by decide +kernel)
  rcases h.x with e | hx
  · have e : x = "0" := e
    subst e
    by_cases c : i < 0
    · simp only [atomW, if_pos c, if_pos]
      exact .cons m1 (.cons hn .nil)
    · simp only [atomW, if_neg c, if_pos]
      exact .cons hn .nil
  · have hx : isNameW x = true := hx
    have m0 := (name_ne hx).1
    have hp := pw_small (csS_name hx).2
    simp only [atomW, if_neg m0]
    split
    · exact .cons hp .nil
    · split
      · exact .cons hp (.cons m2 (.cons hn .nil))
      · exact .cons hp (.cons m1 (.cons hn .nil))
theorem PW_sep {k : Str} (hk : pw (csS k)) : ∀ (fs : List Fm), (∀ f ∈ fs, PW (fmW true f)) → PW (sepW k (fmsW fs))
  | [], _ => .nil
  | [f], h => h f List.mem_cons_self
  | f :: g :: fs, h => ((h f List.mem_cons_self).app (.cons hk .nil)).app (PW_sep hk (g :: fs) fun x hx => h x (List.mem_cons_of_mem _ hx))
theorem PW_par {f : Fm} (h : PW (fmW false f)) (e : fmW true f = ("(" : Str) :: (fmW false f ++ [(")" : Str)])) : PW (fmW true f) := by
  rw [e]
  exact .cons (pc (by decide +kernel)) (h.app (.cons (pc (by decide +kernel)) .nil))
theorem PW_all {ar : List Str} {f : Fm} (h : OkF ar f) : (∀ b, PW (fmW b f)) ∧ ∀ k, PW (qW k f) := by
  have c : pw (csS ":") := pc (by decide +kernel)
  induction h with
  | @cmp ar op l r ho hl hr =>
    have := ((PW_atom hl).app (.cons (pw_of (pw_ops op ho)) .nil)).app (PW_atom hr)
    exact ⟨fun b => by simpa [fmW] using this, fun k => by have := PW.cons c this; simpa [qW] using this⟩
  | @no ar f _ ih =>
    have := PW.cons (pc (x := "not") (by decide +kernel)) (ih.1 true)
    exact ⟨fun b => by simpa [fmW] using this, fun k => by have := PW.cons c this; simpa [qW] using this⟩
  | @q ar k n f hk hn hf _ ih =>
    have hkp : pw (csS k) := pc (by rcases hk with rfl | rfl <;> decide +kernel)
    have hnp := pw_small (csS_name hn).2
    have h0 : PW (fmW false (.q k n f)) := by have := PW.cons hkp (.cons hnp (ih.2 k)); simpa [fmW] using this
    refine ⟨fun b => by
      cases b with
      | false => exact h0
      | true => exact PW_par h0 (by simp [fmW]), fun kk => ?_⟩
    by_cases e : k = kk
    · subst e
      have := PW.cons hnp (ih.2 k)
      simpa [qW] using this
    · have := PW.cons c (.cons hkp (.cons hnp (ih.2 k)))
      simpa [qW, e] using this
  | @row ar k fs hk hl _ ih =>
    have hkp : pw (csS k) := pc (by rcases hk with rfl | rfl <;> decide +kernel)
    have := PW_sep hkp fs fun f hf => (ih f hf).1 true
    have h0 : PW (fmW false (.row k fs)) := by simpa [fmW] using this
    exact ⟨fun b => by
      cases b with
      | false => exact h0
      | true => exact PW_par h0 (by simp [fmW]), fun kk => by have := PW.cons c this; simpa [qW] using this⟩
/-- the text with more blanks has the same words -/
theorem sep_wide_fm {f : Fm} (h : OkF [] f) : Sep ((fmC false f).flatMap wideF) ((fmW false f).map csS) := by
  have := (sep_all h).1 false [] [] (.inl rfl) .nil
  rw [List.append_nil, List.append_nil] at this
  refine sep_wide this fun w hw => ?_
  obtain ⟨x, hx, rfl⟩ := List.mem_map.mp hw
  exact (PW_all h).1 false x hx
end Df

/-! ### k12, plain: texts with a strange sign; places of words -/
namespace Df
open PySem
/-- signs of formulas; ! stands in front of = or at the end -/
def gdB : List Nat → Bool
  | [] => true
  | c :: r => (c == 32 || (oneSign c || (isSmall c || (isFig c || c == 33 && (match r with | [] => true | b :: _ => b == 61))))) && gdB r
def strange (s : Nat) : Bool := !(s == 32 || (oneSign s || (isSmall s || (isFig s || s == 61))))
/-- 1 if the last sign is ! -/
def tl33 : List Nat → Nat
  | [] => 0
  | [c] => if c = 33 then 1 else 0
  | _ :: b :: r => tl33 (b :: r)
theorem tl33_cons (a : Nat) {p : List Nat} (h : p ≠ []) : tl33 (a :: p) = tl33 p := by
  cases p with
  | nil => exact absurd rfl h
  | cons b r => rfl
theorem tl33_le : ∀ p : List Nat, tl33 p ≤ p.length
  | [] => Nat.le_refl _
  | [c] => by simp only [tl33, List.length_cons, List.length_nil]; split <;> omega
  | _ :: b :: r => by
    have := tl33_le (b :: r)
    simp only [tl33, List.length_cons] at this ⊢
    omega
theorem gd_tail {c : Nat} {r : List Nat} (h : gdB (c :: r) = true) : gdB r = true := by
  unfold gdB at h
  exact (Bool.and_eq_true_iff.mp h).2
theorem gd_drop : ∀ (k : Nat) {p : List Nat}, gdB p = true → gdB (p.drop k) = true
  | 0, _, h => h
  | k + 1, [], _ => rfl
  | k + 1, c :: r, h => gd_drop k (p := r) (gd_tail h)
theorem tl33_drop : ∀ (k : Nat) {p : List Nat}, p.drop k ≠ [] → tl33 (p.drop k) = tl33 p
  | 0, _, _ => rfl
  | k + 1, [], h => absurd rfl h
  | k + 1, c :: r, h => by
    have h : r.drop k ≠ [] := h
    have hr : r ≠ [] := fun z => h (by rw [z]; exact List.drop_nil)
    show tl33 (r.drop k) = _
    rw [tl33_drop k h, tl33_cons c hr]
theorem tw_pre {q : Nat → Bool} {s : Nat} (hs : q s = false) {t : List Nat} : ∀ p : List Nat, (p ++ s :: t).takeWhile q = p.takeWhile q
  | [] => by rw [List.nil_append, List.takeWhile_cons, if_neg (by rw [hs]; decide)]; rfl
  | c :: p => by
    rw [List.cons_append, List.takeWhile_cons, List.takeWhile_cons, tw_pre hs p]
theorem tl33_all {q : Nat → Bool} (hq : q 33 = false) : ∀ p : List Nat, p.takeWhile q = p → tl33 p = 0
  | [], _ => rfl
  | [c], h => by
    have hc : q c = true := by
      rw [List.takeWhile_cons] at h
      split at h
      · assumption
      · cases h
    have : c ≠ 33 := fun z => by rw [z, hq] at hc; cases hc
    simp only [tl33, if_neg this]
  | c :: b :: r, h => by
    rw [List.takeWhile_cons] at h
    split at h
    · exact tl33_all hq (b :: r) (List.cons.inj h).2
    · cases h
/-- the length of the first word of what stands in front of a strange sign -/
theorem len_pre {c s : Nat} {p t : List Nat} (hs : strange s = true) (hg : gdB (c :: p) = true) (h32 : c ≠ 32) (h33 : c = 33 → p ≠ []) :
    ∃ k, lenC (c :: (p ++ s :: t)) = k + 1 ∧ k + 1 ≤ (c :: p).length ∧ ((c :: p).drop (k + 1) = [] → tl33 (c :: p) = 0) := by
  simp only [strange, Bool.not_eq_true', Bool.or_eq_false_iff, beq_eq_false_iff_ne] at hs
  obtain ⟨s1, s2, s3, s4, s5⟩ := hs
  have run : oneSign c = false → c ≠ 61 → pairOp c ((p ++ s :: t).headD 0) = false → c ≠ 33 → ∃ k, lenC (c :: (p ++ s :: t)) = k + 1 ∧ k + 1 ≤ (c :: p).length ∧ ((c :: p).drop (k + 1) = [] → tl33 (c :: p) = 0) := fun ho h61 hp h33 => by
    have hl : lenC (c :: (p ++ s :: t)) = runC c (c :: p ++ s :: t) := by
      cases hq : p ++ s :: t with
      | nil => simp at hq
      | cons b r =>
        rw [hq] at hp
        rw [lenC2, if_neg (by rw [show pairOp c b = false from hp]; decide), if_neg (by rw [ho]; decide), List.cons_append, hq]
    have hcls : isSmall c = true ∨ isFig c = true := by
      unfold gdB at hg
      simp only [Bool.and_eq_true, Bool.or_eq_true, beq_iff_eq] at hg
      rcases hg.1 with h | h | h | h | h
      · exact absurd h h32
      · rw [ho] at h; cases h
      · exact .inl h
      · exact .inr h
      · exact absurd h.1 h33
    have fin : ∀ q : Nat → Bool, q c = true → q s = false → q 33 = false → runC c (c :: p ++ s :: t) = ((c :: p ++ s :: t).takeWhile q).length →
        ∃ k, lenC (c :: (p ++ s :: t)) = k + 1 ∧ k + 1 ≤ (c :: p).length ∧ ((c :: p).drop (k + 1) = [] → tl33 (c :: p) = 0) := fun q qc qs q3 hr => by
      have e : (c :: p ++ s :: t).takeWhile q = (c :: p).takeWhile q := tw_pre qs (c :: p)
      have e2 : (c :: p).takeWhile q = c :: p.takeWhile q := by rw [List.takeWhile_cons, if_pos qc]
      refine ⟨(p.takeWhile q).length, by rw [hl, hr, e, e2]; rfl, ?_, fun z => ?_⟩
      · have := (List.takeWhile_sublist q (l := p)).length_le
        simp only [List.length_cons]
        omega
      · have z : p.drop (p.takeWhile q).length = [] := z
        have hle := List.drop_eq_nil_iff.mp z
        have hsub := List.takeWhile_sublist q (l := p)
        have : p.takeWhile q = p := hsub.eq_of_length_le hle
        exact tl33_all q3 _ (by rw [e2, this])
    by_cases c1 : isSmall c = true
    · exact fin isSmall c1 s3 (by decide) (by unfold runC; rw [if_pos c1])
    · refine fin isFig (hcls.resolve_left c1) s4 (by decide) (by unfold runC; rw [if_neg c1])
  have pair : ∀ b r, p = b :: r → pairOp c b = true → ∃ k, lenC (c :: (p ++ s :: t)) = k + 1 ∧ k + 1 ≤ (c :: p).length ∧ ((c :: p).drop (k + 1) = [] → tl33 (c :: p) = 0) := fun b r e hp => by
    subst e
    refine ⟨1, by rw [List.cons_append, lenC2, if_pos hp], by simp, fun z => ?_⟩
    have z : r = [] := z
    subst z
    unfold pairOp at hp
    simp only [Bool.and_eq_true, beq_iff_eq] at hp
    rw [hp.1]
    rfl
  have one : oneSign c = true → pairOp c ((p ++ s :: t).headD 0) = false → ∃ k, lenC (c :: (p ++ s :: t)) = k + 1 ∧ k + 1 ≤ (c :: p).length ∧ ((c :: p).drop (k + 1) = [] → tl33 (c :: p) = 0) := fun ho hp => by
    refine ⟨0, ?_, by simp, fun z => ?_⟩
    · cases hq : p ++ s :: t with
      | nil => simp at hq
      | cons b r =>
        rw [hq] at hp
        rw [lenC2, if_neg (by rw [show pairOp c b = false from hp]; decide), if_pos ho]
    · have z : p = [] := z
      subst z
      have : c ≠ 33 := fun e => by subst e; revert ho; decide
      simp only [tl33, if_neg this]
  have hps : pairOp c s = false := by
    unfold pairOp
    rw [show (s == 61) = false from beq_eq_false_iff_ne.mpr s5]
    rfl
  cases p with
  | nil =>
    have h33' : c ≠ 33 := fun e => h33 e rfl
    by_cases ho : oneSign c = true
    · exact one ho hps
    · have ho := Bool.eq_false_iff.mpr ho
      exact run ho (fun e => by subst e; revert ho; decide) hps h33'
  | cons b r =>
    by_cases hp : pairOp c b = true
    · exact pair b r rfl hp
    · have hp := Bool.eq_false_iff.mpr hp
      have h33' : c ≠ 33 := fun e => by
        subst e
        unfold gdB at hg
        simp only [Bool.and_eq_true, Bool.or_eq_true, beq_iff_eq] at hg
        have hb : b = 61 := by
          rcases hg.1 with h | h | h | h | h
          · cases h
          · exact absurd h (by decide)
          · exact absurd h (by decide)
          · exact absurd h (by decide)
          · exact h.2
        subst hb
        revert hp
        decide
      by_cases ho : oneSign c = true
      · exact one ho hp
      · have ho := Bool.eq_false_iff.mpr ho
        exact run ho (fun e => by subst e; revert ho; decide) hp h33'
theorem lex_strange {s : Nat} (hs : strange s = true) {t : List Nat} (ht : t.head? ≠ some 61) : ∀ (n : Nat) (p : List Nat) (i : Nat), p.length < n → gdB p = true → lexC n i (p ++ s :: t) = .inr (i + (p.length - tl33 p))
  | 0, p, i, h, _ => absurd h (Nat.not_lt_zero _)
  | n + 1, [], i, _, _ => by
    have hs' := hs
    simp only [strange, Bool.not_eq_true', Bool.or_eq_false_iff, beq_eq_false_iff_ne] at hs
    obtain ⟨s1, s2, s3, s4, s5⟩ := hs
    have hl : lenC (s :: t) = 0 := by
      have hr : runC s (s :: t) = 0 := by
        unfold runC
        rw [if_neg (by rw [s3]; decide), List.takeWhile_cons, if_neg (by rw [s4]; decide)]
        rfl
      cases t with
      | nil =>
        have hz : ¬ ((s == 61 || (s == 60 || s == 62)) = true) := fun z => by
          simp only [Bool.or_eq_true, beq_iff_eq] at z
          rcases z with z | z | z
          · exact s5 z
          · subst z; exact absurd s2 (by decide)
          · subst z; exact absurd s2 (by decide)
        rw [lenC1, if_neg hz, if_neg (by rw [s2]; decide), hr]
      | cons b r =>
        have hb : b ≠ 61 := fun e => ht (by rw [e]; rfl)
        have : pairOp s b = false := by
          unfold pairOp
          rw [show (b == 61) = false from beq_eq_false_iff_ne.mpr hb]
          rfl
        rw [lenC2, if_neg (by rw [this]; decide), if_neg (by rw [s2]; decide), hr]
    show lexC (n + 1) i (s :: t) = _
    rw [lexC, if_neg s1, hl]
    rfl
  | n + 1, c :: p, i, hn, hg => by
    have hn' : p.length < n := by simp only [List.length_cons] at hn; omega
    by_cases h32 : c = 32
    · subst h32
      show lexC (n + 1) i (32 :: (p ++ s :: t)) = _
      rw [lexC, if_pos rfl, lex_strange hs ht n p (i + 1) hn' (gd_tail hg)]
      congr 1
      have h2 := tl33_le p
      by_cases hp : p = []
      · subst hp
        simp [tl33]
      · rw [tl33_cons 32 hp, List.length_cons]
        omega
    · by_cases h33 : c = 33 ∧ p = []
      · obtain ⟨rfl, rfl⟩ := h33
        simp only [strange, Bool.not_eq_true', Bool.or_eq_false_iff, beq_eq_false_iff_ne] at hs
        obtain ⟨s1, s2, s3, s4, s5⟩ := hs
        have hl : lenC (33 :: s :: t) = 0 := by
          have : pairOp 33 s = false := by
            unfold pairOp
            rw [show (s == 61) = false from beq_eq_false_iff_ne.mpr s5]
            rfl
          rw [lenC2, if_neg (by rw [this]; decide), if_neg (by decide)]
          rfl
        show lexC (n + 1) i (33 :: (s :: t)) = _
        rw [lexC, if_neg (by decide), hl]
        rfl
      · obtain ⟨k, hk, hle, hz⟩ := len_pre (t := t) hs hg h32 (fun e z => h33 ⟨e, z⟩)
        show lexC (n + 1) i (c :: (p ++ s :: t)) = _
        have hd : (c :: (p ++ s :: t)).drop (k + 1) = (c :: p).drop (k + 1) ++ s :: t := by
          rw [show c :: (p ++ s :: t) = (c :: p) ++ s :: t from rfl, List.drop_append_of_le_length hle]
        have hlen : ((c :: p).drop (k + 1)).length = (c :: p).length - (k + 1) := List.length_drop
        rw [lexC, if_neg h32, hk]
        show (match lexC n (i + (k + 1)) ((c :: (p ++ s :: t)).drop (k + 1)) with | .inl ws => _ | .inr j => _) = _
        rw [hd, lex_strange hs ht n _ (i + (k + 1)) (by rw [hlen]; simp only [List.length_cons]; omega) (gd_drop _ hg)]
        show Sum.inr _ = Sum.inr _
        congr 1
        have h2 := tl33_le (c :: p)
        by_cases hq : (c :: p).drop (k + 1) = []
        · rw [hq, hz hq]
          have := List.drop_eq_nil_iff.mp hq
          simp only [List.length_nil, tl33]
          omega
        · rw [tl33_drop _ hq, hlen]
          have h3 := tl33_le ((c :: p).drop (k + 1))
          rw [tl33_drop _ hq, hlen] at h3
          omega
end Df

/-! ### k12, plain: the text without its last word -/
namespace Df
open PySem
theorem lexC_fuel : ∀ (n m : Nat) (i : Nat) (cs : List Nat), cs.length < n → cs.length < m → lexC n i cs = lexC m i cs
  | 0, _, _, _, h, _ => absurd h (Nat.not_lt_zero _)
  | _ + 1, 0, _, _, _, h => absurd h (Nat.not_lt_zero _)
  | n + 1, m + 1, i, [], _, _ => by rw [lexC, lexC]
  | n + 1, m + 1, i, c :: cs, hn, hm => by
    simp only [List.length_cons] at hn hm
    rw [lexC, lexC]
    by_cases h : c = 32
    · rw [if_pos h, if_pos h, lexC_fuel n m (i + 1) cs (by omega) (by omega)]
    · rw [if_neg h, if_neg h]
      cases q : lenC (c :: cs) with
      | zero => rfl
      | succ k =>
        have hl : ((c :: cs).drop (k + 1)).length = cs.length - k := by simp
        show (match lexC n (i + (k + 1)) ((c :: cs).drop (k + 1)) with | .inl ws => Sum.inl (((c :: cs).take (k + 1), i) :: ws) | .inr j => .inr j) = _
        rw [lexC_fuel n m (i + (k + 1)) ((c :: cs).drop (k + 1)) (by omega) (by omega)]
        try rfl
theorem lex_sep2 {cs : List Nat} {ws : List (List Nat)} (h : Sep cs ws) (i : Nat) {n : Nat} (hn : cs.length < n) : ∃ ps, lexC n i cs = .inl ps ∧ ps.map (·.1) = ws := by
  obtain ⟨N, hN⟩ := lex_sep h
  obtain ⟨ps, h1, h2⟩ := hN (N + cs.length + 1) (by omega) i
  exact ⟨ps, by rw [lexC_fuel n (N + cs.length + 1) i cs hn (by omega), h1], h2⟩
/-- a last word, and what stands in front of it -/
def LastW (pre w : List Nat) : Prop := w = [41] ∨ (w ≠ [] ∧ (∀ c ∈ w, isSmall c = true ∨ isFig c = true) ∧ ∃ q c, pre = q ++ [c] ∧ isSmall c = false ∧ isFig c = false)
theorem LastW.front {pre w : List Nat} (h : LastW pre w) (a : List Nat) : LastW (a ++ pre) w := by
  rcases h with h | ⟨h1, h2, q, c, rfl, h3⟩
  · exact .inl h
  · exact .inr ⟨h1, h2, a ++ q, c, by rw [List.append_assoc], h3⟩
def CR (b : Bool) (f : Fm) : Prop := ∃ pre w, fmC b f = pre ++ w ∧ LastW pre w ∧ Sep pre (((fmW b f).dropLast).map csS)
def QCR (k : Str) (f : Fm) : Prop := ∃ pre w, qC k f = pre ++ w ∧ LastW pre w ∧ Sep pre (((qW k f).dropLast).map csS) ∧ bnd pre
theorem atom_cut {a : Str × Int} (h : OkA a) : ∃ pre w, atomC a = pre ++ w ∧ w ≠ [] ∧ (∀ c ∈ w, isSmall c = true ∨ isFig c = true) ∧ Sep pre (((atomW a).dropLast).map csS) ∧ (pre = [] ∨ ∃ q c, pre = q ++ [c] ∧ isSmall c = false ∧ isFig c = false) := by
  obtain ⟨x, i⟩ := a
  have hi : i.natAbs ≤ 9 := h.i
  obtain ⟨m1, m2⟩ := csS_num _ hi
  have hw : ∀ c ∈ csS (numW i.natAbs), isSmall c = true ∨ isFig c = true := fun c hc => .inr (List.all_eq_true.mp m2 c hc)
  rcases h.x with e | hx
  · have e : x = "0" := e
    subst e
    by_cases c : i < 0
    · refine ⟨[45], csS (numW i.natAbs), by simp [atomC, c], m1, hw, ?_, .inr ⟨[], 45, rfl, by decide, by decide⟩⟩
      have : (atomW (("0" : Str), i)).dropLast.map csS = [[45]] := by simp [atomW, c, cs_minus]
      rw [this]
      exact sep_one (by decide) .nil
    · refine ⟨[], csS (numW i.natAbs), by simp [atomC, c], m1, hw, ?_, .inl rfl⟩
      have : (atomW (("0" : Str), i)).dropLast.map csS = [] := by simp [atomW, c]
      rw [this]
      exact .nil
  · have hx : isNameW x = true := hx
    have m0 := (name_ne hx).1
    obtain ⟨a1, a2⟩ := csS_name hx
    by_cases c0 : i = 0
    · refine ⟨[], csS x, by simp [atomC, m0, c0], a1, fun c hc => .inl (List.all_eq_true.mp a2 c hc), ?_, .inl rfl⟩
      have : (atomW (x, i)).dropLast.map csS = [] := by simp [atomW, m0, c0]
      rw [this]
      exact .nil
    · by_cases c : 0 < i
      · refine ⟨csS x ++ [32, 43, 32], csS (numW i.natAbs), by simp [atomC, m0, c0, c], m1, hw, ?_, .inr ⟨csS x ++ [32, 43], 32, by simp, by decide, by decide⟩⟩
        have : (atomW (x, i)).dropLast.map csS = [csS x, [43]] := by simp [atomW, m0, c0, c, cs_plus]
        rw [this]
        exact sep_name a1 a2 (bnd32 _) (.blank (sep_one (by decide) (.blank .nil)))
      · refine ⟨csS x ++ [32, 45, 32], csS (numW i.natAbs), by simp [atomC, m0, c0, c], m1, hw, ?_, .inr ⟨csS x ++ [32, 45], 32, by simp, by decide, by decide⟩⟩
        have : (atomW (x, i)).dropLast.map csS = [csS x, [45]] := by simp [atomW, m0, c0, c, cs_minus]
        rw [this]
        exact sep_name a1 a2 (bnd32 _) (.blank (sep_one (by decide) (.blank .nil)))
theorem C_cmp {op : Str} {l r : Str × Int} (ho : op ∈ opsL) (hl : OkA l) (hr : OkA r) (b : Bool) : CR b (.cmp op l r) := by
  obtain ⟨pre, w, e, hw, hc, hs, hp⟩ := atom_cut hr
  refine ⟨atomC l ++ (32 :: csS op ++ [32]) ++ pre, w, by simp [fmC, e], .inr ⟨hw, hc, ?_⟩, ?_⟩
  · rcases hp with rfl | ⟨q, c, rfl, h1, h2⟩
    · exact ⟨atomC l ++ (32 :: csS op), 32, by simp, by decide, by decide⟩
    · exact ⟨atomC l ++ (32 :: csS op ++ [32]) ++ q, c, by simp, h1, h2⟩
  · have := sep_atom hl (bnd32 _) (.blank (sep_op ho hs))
    have e2 : (fmW b (.cmp op l r)).dropLast = atomW l ++ [op] ++ (atomW r).dropLast := by
      rw [show fmW b (.cmp op l r) = atomW l ++ [op] ++ atomW r by cases b <;> simp [fmW], dl_app _ (atomW_ne r)]
    rw [e2]
    simpa using this
theorem C_no {ar : List Str} {f : Fm} (h0 : OkF ar f) (h : CR true f) (b : Bool) : CR b (.no f) := by
  obtain ⟨pre, w, e, hw, hs⟩ := h
  obtain ⟨k1, k2⟩ := kw_ok "not" (by decide +kernel)
  refine ⟨csS "not " ++ pre, w, by simp [fmC, e], hw.front _, ?_⟩
  have := sep_name k1 k2 (bnd32 _) (.blank hs)
  have e2 : (fmW b (.no f)).dropLast = ("not" : Str) :: (fmW true f).dropLast := by
    rw [show fmW b (.no f) = ("not" : Str) :: fmW true f by cases b <;> simp [fmW], dl_cons _ ((fmW_ne h0).1 true)]
  rw [e2, not_eq]
  simpa using this
theorem C_par {f : Fm} (h : SR false f) (e : fmC true f = 40 :: (fmC false f ++ [41])) (e2 : fmW true f = ("(" : Str) :: (fmW false f ++ [(")" : Str)])) : CR true f := by
  have p1 : csS "(" = [40] := by decide +kernel
  refine ⟨40 :: fmC false f, [41], by rw [e]; rfl, .inl rfl, ?_⟩
  have := sep_one (c := 40) (by decide) (h [] [] (.inl rfl) .nil)
  rw [e2, dl_cons _ (by simp), List.dropLast_concat]
  simpa [p1] using this
theorem QC_body {k : Str} {f : Fm} (hne : fmW false f ≠ []) (h : CR false f) (e : qC k f = 58 :: 32 :: fmC false f) (e2 : qW k f = (":" : Str) :: fmW false f) : QCR k f := by
  have p : csS ":" = [58] := by decide +kernel
  obtain ⟨pre, w, e3, hw, hs⟩ := h
  refine ⟨58 :: 32 :: pre, w, by rw [e, e3]; rfl, hw.front [58, 32], ?_, bnd58 _⟩
  rw [e2, dl_cons _ hne]
  have := sep_one (c := 58) (by decide) (.blank hs)
  simpa [p] using this
theorem C_sep {k : Str} (hk : k = "or" ∨ k = "and") : ∀ (fs : List Fm), fs ≠ [] → (∀ f ∈ fs, fmW true f ≠ []) → (∀ f ∈ fs, SR true f) → (∀ f ∈ fs, CR true f) →
    ∃ pre w, sepC k (fmsC fs) = pre ++ w ∧ LastW pre w ∧ Sep pre (((sepW k (fmsW fs)).dropLast).map csS)
  | [], h, _, _, _ => absurd rfl h
  | [f], _, _, _, h => by
    obtain ⟨pre, w, e, hw, hs⟩ := h f List.mem_cons_self
    exact ⟨pre, w, by simp [fmsC, sepC, e], hw, by simpa [fmsW, sepW] using hs⟩
  | f :: g :: fs, _, hn, hS, h => by
    obtain ⟨pre, w, e, hw, hs⟩ := C_sep hk (g :: fs) (by simp) (fun x hx => hn x (List.mem_cons_of_mem _ hx)) (fun x hx => hS x (List.mem_cons_of_mem _ hx)) (fun x hx => h x (List.mem_cons_of_mem _ hx))
    obtain ⟨k1, k2⟩ := kw_ok k (by rcases hk with rfl | rfl <;> decide +kernel)
    have hne : sepW k (fmsW (g :: fs)) ≠ [] := by
      have hg := hn g (by simp)
      cases fs with
      | nil => simpa [fmsW, sepW] using hg
      | cons a b => simp [fmsW, sepW]
    refine ⟨fmC true f ++ (32 :: csS k ++ [32]) ++ pre, w, ?_, hw.front _, ?_⟩
    · rw [show sepC k (fmsC (f :: g :: fs)) = fmC true f ++ (32 :: csS k ++ [32]) ++ sepC k (fmsC (g :: fs)) by simp [fmsC, sepC], e]
      simp
    · have := hS f List.mem_cons_self _ _ (bnd32 _) (.blank (sep_name k1 k2 (bnd32 _) (.blank hs)))
      rw [show sepW k (fmsW (f :: g :: fs)) = fmW true f ++ [k] ++ sepW k (fmsW (g :: fs)) by simp [fmsW, sepW], dl_app _ hne]
      simpa using this
theorem cutC_all {ar : List Str} {f : Fm} (h : OkF ar f) : (∀ b, CR b f) ∧ ∀ k, QCR k f := by
  induction h with
  | @cmp ar op l r ho hl hr => exact ⟨C_cmp ho hl hr, fun k => QC_body (by simp [fmW]) (C_cmp ho hl hr false) (by simp [qC, fmC]) (by simp [qW, fmW])⟩
  | @no ar f h0 ih => exact ⟨C_no h0 (ih.1 true), fun k => QC_body (by simp [fmW]) (C_no h0 (ih.1 true) false) (by simp [qC, fmC]) (by simp [qW, fmW])⟩
  | @q ar k n f hk hn hf h0 ih =>
    obtain ⟨a1, a2⟩ := csS_name hn
    obtain ⟨k1, k2⟩ := kw_ok k (by rcases hk with rfl | rfl <;> decide +kernel)
    obtain ⟨pre, w, e, hw, hs, hb⟩ := ih.2 k
    have hS := (sep_all (.q hk hn hf h0)).1 false
    have hF : CR false (.q k n f) := by
      refine ⟨csS k ++ (32 :: csS n) ++ pre, w, by simp [fmC, e], hw.front _, ?_⟩
      have := sep_name k1 k2 (bnd32 _) (.blank (sep_name a1 a2 hb hs))
      have e2 : (fmW false (.q k n f)).dropLast = k :: n :: (qW k f).dropLast := by
        rw [show fmW false (.q k n f) = k :: n :: qW k f by simp [fmW], dl_cons _ (by simp), dl_cons _ ((fmW_ne h0).2 k)]
      rw [e2]
      simpa using this
    refine ⟨fun b => by
      cases b with
      | false => exact hF
      | true => exact C_par hS (by simp [fmC]) (by simp [fmW]), fun kk => ?_⟩
    by_cases c : k = kk
    · subst c
      refine ⟨32 :: csS n ++ pre, w, by simp [qC, e], hw.front _, ?_, bnd32 _⟩
      have := Sep.blank (sep_name a1 a2 hb hs)
      have e2 : (qW k (.q k n f)).dropLast = n :: (qW k f).dropLast := by
        rw [show qW k (.q k n f) = n :: qW k f by simp [qW], dl_cons _ ((fmW_ne h0).2 k)]
      rw [e2]
      simpa using this
    · exact QC_body (by simp [fmW]) hF (by simp [qC, fmC, c]) (by simp [qW, fmW, c])
  | @row ar k fs hk hl hs ih =>
    have hS := (sep_all (.row hk hl hs)).1 false
    have hF : CR false (.row k fs) := by
      obtain ⟨pre, w, e, hw, hp⟩ := C_sep hk fs (by intro z; rw [z] at hl; simp at hl) (fun f hf => (fmW_ne (hs f hf)).1 true) (fun f hf => (sep_all (hs f hf)).1 true) (fun f hf => (ih f hf).1 true)
      exact ⟨pre, w, by simp [fmC, e], hw, by simpa [fmW] using hp⟩
    exact ⟨fun b => by
      cases b with
      | false => exact hF
      | true => exact C_par hS (by simp [fmC]) (by simp [fmW]), fun kk => QC_body ((fmW_ne (.row hk hl hs)).1 false) hF (by simp [qC, fmC]) (by simp [qW, fmW])⟩
end Df

/-! ### k12, plain: the narrow text has the same words -/
namespace Df
open PySem
/-- a colon takes the blank behind it -/
def rep2 : List Nat → List Nat
  | [] => []
  | [c] => [c]
  | c :: d :: r => if c = 58 ∧ d = 32 then 58 :: rep2 r else c :: rep2 (d :: r)
/-- = without the blanks around it -/
def rep3 : List Nat → List Nat
  | [] => []
  | [c] => [c]
  | [c, d] => [c, d]
  | c :: d :: e :: r => if c = 32 ∧ (d = 61 ∧ e = 32) then 61 :: rep3 r else c :: rep3 (d :: e :: r)
theorem rep2_head (cs : List Nat) : (rep2 cs).head? = cs.head? := by
  match cs with
  | [] => rfl
  | [c] => rfl
  | c :: d :: r =>
    rw [rep2]
    split
    · rename_i h; rw [h.1]; rfl
    · rfl
theorem rep2_skip {c : Nat} (h : c ≠ 58) (r : List Nat) : rep2 (c :: r) = c :: rep2 r := by
  cases r with
  | nil => rfl
  | cons d r => rw [rep2, if_neg (fun z => h z.1)]
theorem rep2_app : ∀ {w : List Nat}, 58 ∉ w → ∀ cs, rep2 (w ++ cs) = w ++ rep2 cs
  | [], _, _ => rfl
  | c :: w, h, cs => by
    rw [List.cons_append, rep2_skip (fun z => h (by rw [z]; exact List.mem_cons_self)), rep2_app (fun z => h (List.mem_cons_of_mem _ z))]
    rfl
theorem len58 (cs : List Nat) : lenC (58 :: cs) = 1 := by
  cases cs with
  | nil => decide
  | cons b r =>
    have : pairOp 58 b = false := by
      unfold pairOp
      simp
    rw [lenC2, if_neg (by rw [this]; decide), if_pos (by decide)]
theorem Sep.unblank {cs : List Nat} {ws : List (List Nat)} (h : Sep (32 :: cs) ws) : Sep cs ws := by
  generalize e : 32 :: cs = ds at h
  cases h with
  | nil => cases e
  | blank h => cases e; exact h
  | @word w c2 ws hw h32 hl h =>
    match w, hw with
    | c :: r, _ =>
      have : (32 : Nat) = c := (List.cons.inj e).1
      subst this
      exact absurd rfl h32
theorem sep_rep2 : ∀ (n : Nat) {cs : List Nat} {ws : List (List Nat)}, cs.length ≤ n → Sep cs ws → (∀ w ∈ ws, 58 ∉ w ∨ w = [58]) → Sep (rep2 cs) ws := by
  intro n
  induction n with
  | zero =>
    intro cs ws hn h hp
    have : cs = [] := List.length_eq_zero_iff.mp (by omega)
    subst this
    exact h
  | succ n ih =>
    intro cs ws hn h hp
    cases h with
    | nil => exact .nil
    | @blank cs ws h =>
      rw [rep2_skip (by decide)]
      exact .blank (ih (by simp at hn; omega) h hp)
    | @word w c2 ws hw h32 hl h =>
      have hlen : c2.length ≤ n := by
        rw [List.length_append] at hn
        have : 0 < w.length := List.length_pos_iff.mpr hw
        omega
      have hp2 : ∀ w ∈ ws, 58 ∉ w ∨ w = [58] := fun x hx => hp x (List.mem_cons_of_mem _ hx)
      rcases hp w List.mem_cons_self with hc | rfl
      · rw [rep2_app hc]
        exact .word hw h32 (len_stop hw hl (.inl (rep2_head c2))) (ih hlen h hp2)
      · cases c2 with
        | nil => exact .word hw h32 hl h
        | cons d r =>
          show Sep (rep2 (58 :: d :: r)) _
          rw [rep2]
          split
          · rename_i hd
            obtain ⟨_, rfl⟩ := hd
            exact sep_one (c := 58) (by decide) (ih (by simp at hlen; omega) (Sep.unblank h) hp2)
          · exact sep_one (c := 58) (by decide) (ih hlen h hp2)
/-- no operator behind an operator, none at the end; p: the word in front is one -/
def oo : Bool → List Str → Bool
  | p, [] => !p
  | p, x :: r => !(p && opsL.contains x) && oo (opsL.contains x) r
theorem oo_weak : ∀ {p : Bool} {ws : List Str}, oo true ws = true → oo p ws = true
  | true, _, h => h
  | false, [], _ => rfl
  | false, x :: r, h => by
    simp only [oo, Bool.true_and, Bool.and_eq_true, Bool.false_and, Bool.not_false] at h ⊢
    exact h.2
theorem oo_app : ∀ {p : Bool} {a b : List Str}, oo p a = true → oo true b = true → oo p (a ++ b) = true
  | p, [], b, _, hb => oo_weak hb
  | p, x :: a, b, ha, hb => by
    simp only [List.cons_append, oo, Bool.and_eq_true] at ha ⊢
    exact ⟨ha.1, oo_app ha.2 hb⟩
theorem oo_one {x : Str} {r : List Str} (hx : opsL.contains x = false) (h : oo true r = true) : oo true (x :: r) = true := by
  simp only [oo, hx, Bool.and_false, Bool.not_false, Bool.true_and]
  exact oo_weak h
theorem oo_last {x : Str} (hx : opsL.contains x = false) : oo true [x] = true := by
  show (!(true && opsL.contains x) && !(opsL.contains x)) = true
  rw [hx]
  rfl
theorem noop_name {x : Str} (h : isNameW x = true) : opsL.contains x = false := by
  cases q : opsL.contains x with
  | false => rfl
  | true =>
    have hm := List.contains_iff_mem.mp q
    have : ∀ o ∈ opsL, isNameW o = false := by decide +kernel
    rw [this x hm] at h
    cases h
theorem noop_num : ∀ n ≤ 9, opsL.contains (numW n) = false := by decide +kernel
theorem noop_kw : ∀ k ∈ (["(", ")", ":", "+", "-", "not", "all", "some", "and", "or"] : List Str), opsL.contains k = false := by decide +kernel
theorem nk {x : Str} (h : x ∈ (["(", ")", ":", "+", "-", "not", "all", "some", "and", "or"] : List Str)) : opsL.contains x = false := noop_kw x h
theorem oo_nil : oo true [] = false := rfl
theorem oo_atom {a : Str × Int} (h : OkA a) : oo true (atomW a) = true := by
  obtain ⟨x, i⟩ := a
  have hn := noop_num _ h.i
  have p : opsL.contains ("+" : Str) = false := nk (by decide +kernel)
  have m : opsL.contains ("-" : Str) = false := nk (by decide +kernel)
  rcases h.x with e | hx
  · have e : x = "0" := e
    subst e
    rw [show atomW (("0" : Str), i) = (if i < 0 then [("-" : Str), numW i.natAbs] else [numW i.natAbs]) by simp [atomW]]
    split
    · exact oo_one m (oo_last hn)
    · exact oo_last hn
  · have hx : isNameW x = true := hx
    simp only [atomW, if_neg (name_ne hx).1]
    split
    · exact oo_last (noop_name hx)
    · split
      · exact oo_one (noop_name hx) (oo_one p (oo_last hn))
      · exact oo_one (noop_name hx) (oo_one m (oo_last hn))
theorem oo_op : ∀ {p : Bool} {a b : List Str} {op : Str}, oo p a = true → oo true b = true → oo p (a ++ (op :: b)) = true
  | p, [], b, op, ha, hb => by
    have : p = false := by cases p <;> simp_all [oo]
    subst this
    simp only [List.nil_append, oo, Bool.false_and, Bool.not_false, Bool.true_and]
    exact oo_weak hb
  | p, x :: a, b, op, ha, hb => by
    simp only [List.cons_append, oo, Bool.and_eq_true] at ha ⊢
    exact ⟨ha.1, oo_op ha.2 hb⟩
theorem oo_sep {k : Str} (hk : opsL.contains k = false) : ∀ (fs : List Fm), fs ≠ [] → (∀ f ∈ fs, oo true (fmW true f) = true) → oo true (sepW k (fmsW fs)) = true
  | [], h, _ => absurd rfl h
  | [f], _, h => by simpa [fmsW, sepW] using h f List.mem_cons_self
  | f :: g :: fs, _, h => by
    have ih := oo_sep hk (g :: fs) (by simp) fun x hx => h x (List.mem_cons_of_mem _ hx)
    have := oo_app (h f List.mem_cons_self) (oo_one hk ih)
    simpa [fmsW, sepW] using this
theorem oo_par {ws : List Str} (h : oo true ws = true) : oo true (("(" : Str) :: (ws ++ [(")" : Str)])) = true := oo_one (nk (by decide +kernel)) (oo_app h (oo_last (nk (by decide +kernel))))
theorem oo_all {ar : List Str} {f : Fm} (h : OkF ar f) : (∀ b, oo true (fmW b f) = true) ∧ ∀ k, oo true (qW k f) = true := by
  have c : opsL.contains (":" : Str) = false := nk (by decide +kernel)
  induction h with
  | @cmp ar op l r ho hl hr =>
    have := oo_op (op := op) (oo_atom hl) (oo_atom hr)
    exact ⟨fun b => by simpa [fmW] using this, fun k => by simpa [qW] using oo_one c this⟩
  | @no ar f h0 ih =>
    have := oo_one (nk (x := "not") (by decide +kernel)) (ih.1 true)
    exact ⟨fun b => by simpa [fmW] using this, fun k => by simpa [qW] using oo_one c this⟩
  | @q ar k n f hk hn hf h0 ih =>
    have k1 : opsL.contains k = false := nk (by rcases hk with rfl | rfl <;> decide +kernel)
    have n1 := noop_name hn
    have hF : oo true (fmW false (.q k n f)) = true := by simpa [fmW] using oo_one k1 (oo_one n1 (ih.2 k))
    refine ⟨fun b => by
      cases b with
      | false => exact hF
      | true => have := oo_par hF; simpa [fmW] using this, fun kk => ?_⟩
    by_cases e : k = kk
    · subst e
      simpa [qW] using oo_one n1 (ih.2 k)
    · have := oo_one c hF
      simpa [qW, fmW, e] using this
  | @row ar k fs hk hl hs ih =>
    have k1 : opsL.contains k = false := nk (by rcases hk with rfl | rfl <;> decide +kernel)
    have hF : oo true (fmW false (.row k fs)) = true := by simpa [fmW] using oo_sep k1 fs (by intro z; rw [z] at hl; simp at hl) fun f hf => (ih f hf).1 true
    exact ⟨fun b => by
      cases b with
      | false => exact hF
      | true => have := oo_par hF; simpa [fmW] using this, fun kk => by have := oo_one c hF; simpa [qW, fmW] using this⟩
theorem rep3_skip {c : Nat} (h : c ≠ 32) : ∀ r : List Nat, rep3 (c :: r) = c :: rep3 r
  | [] => rfl
  | [d] => rfl
  | d :: e :: r => by rw [rep3, if_neg (fun z => h z.1)]
theorem rep3_app : ∀ {w : List Nat}, 32 ∉ w → ∀ cs, rep3 (w ++ cs) = w ++ rep3 cs
  | [], _, _ => rfl
  | c :: w, h, cs => by
    rw [List.cons_append, rep3_skip (fun z => h (by rw [z]; exact List.mem_cons_self)), rep3_app (fun z => h (List.mem_cons_of_mem _ z))]
    rfl
theorem rep3_head (cs : List Nat) : (rep3 cs).head? = cs.head? ∨ (cs.head? = some 32 ∧ ∃ r, rep3 cs = 61 :: r) := by
  match cs with
  | [] => exact .inl rfl
  | [c] => exact .inl rfl
  | [c, d] => exact .inl rfl
  | c :: d :: e :: r =>
    rw [rep3]
    split
    · rename_i h; exact .inr ⟨by rw [h.1]; rfl, _, rfl⟩
    · exact .inl rfl
/-- a word that ended at a blank ends at = too -/
theorem len_stop61 {w cs ds : List Nat} (hw : w ≠ []) (hl : lenC (w ++ 32 :: cs) = w.length) (h1 : w ≠ [60]) (h2 : w ≠ [62]) (h3 : w ≠ [33]) : lenC (w ++ 61 :: ds) = w.length := by
  have run : ∀ (a : Nat) (r : List Nat), runC a (a :: r ++ 32 :: cs) = (a :: r).length → runC a (a :: r ++ 61 :: ds) = (a :: r).length := fun a r h => by
    unfold runC at h ⊢
    have t32 : ∀ q : Nat → Bool, q 32 = false → q 61 = false → (a :: r ++ 61 :: ds).takeWhile q = (a :: r ++ 32 :: cs).takeWhile q := fun q q1 q2 => by rw [tw_pre q2, tw_pre q1]
    split
    · rename_i c
      rw [if_pos c] at h
      rw [t32 isSmall (by decide) (by decide)]
      exact h
    · rename_i c
      rw [if_neg c] at h
      rw [t32 isFig (by decide) (by decide)]
      exact h
  match w, hw with
  | [a], _ =>
    have g1 : a ≠ 60 := fun z => h1 (by rw [z])
    have g2 : a ≠ 62 := fun z => h2 (by rw [z])
    have g3 : a ≠ 33 := fun z => h3 (by rw [z])
    have hp := pair_no (b := 32) g1 g2 g3
    have hq := pair_no (b := 61) g1 g2 g3
    show lenC (a :: 61 :: ds) = 1
    have hl : lenC (a :: 32 :: cs) = 1 := hl
    rw [lenC2, if_neg (by rw [hp]; decide)] at hl
    rw [lenC2, if_neg (by rw [hq]; decide)]
    by_cases ho : oneSign a = true
    · rw [if_pos ho]
    · rw [if_neg ho] at hl ⊢
      exact run a [] hl
  | a :: b :: r, _ =>
    have hl : lenC (a :: b :: (r ++ 32 :: cs)) = r.length + 2 := hl
    show lenC (a :: b :: (r ++ 61 :: ds)) = r.length + 2
    rw [lenC2] at hl ⊢
    by_cases hp : pairOp a b = true
    · rw [if_pos hp] at hl ⊢
      exact hl
    · rw [if_neg hp] at hl ⊢
      by_cases ho : oneSign a = true
      · rw [if_pos ho] at hl
        omega
      · rw [if_neg ho] at hl ⊢
        exact run a (b :: r) hl
theorem len61 {cs : List Nat} (h : cs ≠ []) : lenC (61 :: cs) = 1 := by
  cases cs with
  | nil => exact absurd rfl h
  | cons b r =>
    have : pairOp 61 b = false := pair_no (by decide) (by decide) (by decide)
    rw [lenC2, if_neg (by rw [this]; decide), if_pos (by decide)]
theorem Sep.ne {cs : List Nat} {w : List Nat} {ws : List (List Nat)} (h : Sep cs (w :: ws)) : cs ≠ [] := fun z => by
  subst z
  generalize e : ([] : List Nat) = ds at h
  cases h with
  | blank h => cases e
  | word hw _ _ _ =>
    exact hw (List.append_eq_nil_iff.mp e.symm).1
theorem sep_rep3 : ∀ (n : Nat) {cs : List Nat} {ws : List Str} {p : Bool}, cs.length ≤ n → Sep cs (ws.map csS) → oo p ws = true → (∀ w ∈ ws, 32 ∉ csS w ∧ csS w ≠ [33]) → Sep (rep3 cs) (ws.map csS) := by
  intro n
  induction n with
  | zero =>
    intro cs ws p hn h _ _
    have : cs = [] := List.length_eq_zero_iff.mp (by omega)
    subst this
    exact h
  | succ n ih =>
    intro cs ws p hn h hoo hp
    generalize eW : ws.map csS = vs at h ⊢
    cases h with
    | nil => exact .nil
    | @blank c1 vs h =>
      have hn : c1.length ≤ n := by simp at hn; omega
      have plain : Sep (32 :: rep3 c1) vs := .blank (eW ▸ ih hn (eW ▸ h) hoo hp)
      match c1, h with
      | [], _ => exact plain
      | [d], _ => exact plain
      | d :: e :: r, h =>
        rw [rep3]
        split
        · rename_i hc
          obtain ⟨_, rfl, rfl⟩ := hc
          subst eW
          generalize eD : 61 :: 32 :: r = ds at h
          generalize eV : ws.map csS = vs at h ⊢
          cases h with
          | nil => cases eD
          | blank h => cases eD
          | @word w c2 vs' hw h32 hl h =>
            have hw1 : w.length = 1 := by rw [← hl, ← eD]; exact len61 (by simp)
            match w, hw1 with
            | [a], _ =>
              obtain ⟨ha, hr⟩ := List.cons.inj (show 61 :: 32 :: r = a :: c2 from eD)
              subst ha
              subst hr
              match ws, eV, hoo, hp with
              | x :: xs, eV, hoo, hp =>
                obtain ⟨e1, e2⟩ := List.cons.inj (show csS x :: xs.map csS = [61] :: vs' from eV)
                have hx : x = "=" := csS_inj (e1.trans (by decide +kernel))
                subst hx
                have hoo2 : oo true xs = true := by
                  simp only [oo, Bool.and_eq_true] at hoo
                  exact (show opsL.contains ("=" : Str) = true by decide +kernel) ▸ hoo.2
                subst e2
                have hr2 := Sep.unblank h
                have hl2 : r.length ≤ n := by simp only [List.length_cons] at hn; omega
                have s2 := ih hl2 hr2 hoo2 fun w hw => hp w (List.mem_cons_of_mem _ hw)
                match xs, hoo2, s2 with
                | y :: ys, _, s2 => exact Sep.word (w := [61]) (by simp) (by simp) (len61 (Sep.ne s2)) s2
        · exact plain
    | @word w c2 vs' hw h32 hl h =>
      match ws, eW, hoo, hp with
      | x :: xs, eW, hoo, hp =>
        obtain ⟨e1, e2⟩ := List.cons.inj (show csS x :: xs.map csS = w :: vs' from eW)
        subst e1
        subst e2
        have hlen : c2.length ≤ n := by
          rw [List.length_append] at hn
          have : 0 < (csS x).length := List.length_pos_iff.mpr hw
          omega
        have hx := hp x List.mem_cons_self
        simp only [oo, Bool.and_eq_true] at hoo
        have s2 := ih hlen h hoo.2 fun w hw => hp w (List.mem_cons_of_mem _ hw)
        rw [rep3_app hx.1]
        refine .word hw h32 ?_ s2
        rcases rep3_head c2 with e | ⟨e, r, er⟩
        · exact len_stop hw hl (.inl e)
        · rw [er]
          match c2, e, hl, er, h, s2 with
          | c :: c2, e, hl, er, h, s2 =>
            have hc : c = 32 := Option.some.inj e
            subst hc
            have hnop : opsL.contains x = true → False := fun q => by
              -- an operator is not followed by =
              match c2, er, h with
              | [], er, _ => exact absurd (List.cons.inj (show [32] = 61 :: r from er)).1 (by decide)
              | [d], er, _ => exact absurd (List.cons.inj er).1 (by decide)
              | d :: e :: r2, er, h =>
                rw [rep3] at er
                split at er
                · rename_i hc
                  obtain ⟨_, rfl, rfl⟩ := hc
                  have h1 := Sep.unblank h
                  rw [q] at hoo
                  generalize eD : 61 :: 32 :: r2 = ds at h1
                  generalize eV : xs.map csS = vs at h1
                  cases h1 with
                  | nil => cases eD
                  | blank h => cases eD
                  | @word w c3 vs' hw' h32' hl' h' =>
                    have hw1 : w.length = 1 := by rw [← hl', ← eD]; exact len61 (by simp)
                    match w, hw1 with
                    | [a], _ =>
                      obtain ⟨ha, _⟩ := List.cons.inj (show 61 :: 32 :: r2 = a :: c3 from eD)
                      subst ha
                      match xs, eV, hoo with
                      | y :: ys, eV, hoo =>
                        obtain ⟨e1, e2⟩ := List.cons.inj (show csS y :: ys.map csS = [61] :: vs' from eV)
                        have hy : y = "=" := csS_inj (e1.trans (by decide +kernel))
                        subst hy
                        have := hoo.2
                        simp only [oo, Bool.and_eq_true] at this
                        exact absurd this.1 (by decide +kernel)
                · exact absurd (List.cons.inj er).1 (by decide)
            refine len_stop61 hw hl (fun z => ?_) (fun z => ?_) hx.2
            · exact hnop (by rw [csS_inj (z.trans (by decide +kernel : [60] = csS "<"))]; decide +kernel)
            · exact hnop (by rw [csS_inj (z.trans (by decide +kernel : [62] = csS ">"))]; decide +kernel)
end Df

/-! ### rules of our own -/
namespace Ls
open PySem PySem.Spec PyProof.Rows L2
/-! a def of the module, a class, as callers need them -/
structure Cal (P : Program) (w : World) (K : PySem.W.Frag) (mg : Str → Option Value) (base : Heap) (k : Nat) (x : Str) (sp : Sp) (dvs : List V) : Prop where
  ex : ∃ (f : Addr) (fd : FuncData) (ps : List Str) (ds : List Value), FnOk P w K mg base CX0 k f fd ps sp ∧ mg x = some (.ref f) ∧ PySem.W.keepIn K (.ref f) = true ∧ Binds K fd ps ds ∧ Vals dvs ds
structure Mak (P : Program) (w : World) (K : PySem.W.Frag) (mg : Str → Option Value) (base : Heap) (k : Nat) (x : Str) (C : Addr) (sp : Sp) (dvs : List V) : Prop where
  ex : ∃ (f : Addr) (fd : FuncData) (ps : List Str) (ds : List Value), Mk K C f ∧ FnOk P w K mg base CX0 k f fd ps sp ∧ mg x = some (.ref C) ∧ Binds K fd ps ds ∧ Vals dvs ds
section
variable {X : Cx} {e : Expr} {es : List Expr} {t : TA} {p pos : Pos} {x : Str} {k j : Nat} {sp : Sp} {dvs : List V} {C : Addr}
theorem pe_c (c : Cal X.prog X.w X.K X.mg X.base k x sp dvs) (hr : Room j X.A) (hk : k ≤ j) (hg : Gl X x) (ha : PA X (e :: es) t) (hdb : (x == ("__debug__" : Str)) = false := by decide)
    (he : starEach (e :: es) X.env = (false, eval e X.env) :: starEach es X.env := by rfl) (hpl : (backTo pos (starEach es X.env)).any (·.1) = false := by rfl) : PE X (.Call (.Name x p) (e :: es) [] pos) (tCall sp dvs E0 t) := by
  have ⟨f, fd, ps, ds, F, hm, kp, b, d⟩ := c.ex
  exact pe_call F (hr.mono hk) hg hm kp b d pass0 ha hdb he hpl
theorem pe_mk (c : Mak X.prog X.w X.K X.mg X.base k x C sp dvs) (hr : Room j X.A) (hk : k + 1 ≤ j) (hg : Gl X x) (ha : PA X (e :: es) t) (hdb : (x == ("__debug__" : Str)) = false := by decide)
    (he : starEach (e :: es) X.env = (false, eval e X.env) :: starEach es X.env := by rfl) (hpl : (backTo pos (starEach es X.env)).any (·.1) = false := by rfl) : PE X (.Call (.Name x p) (e :: es) [] pos) (tMake C sp dvs E0 t) := by
  have ⟨f, fd, ps, ds, M, F, hm, b, d⟩ := c.ex
  exact pe_make M F (hr.mono hk) hg hm b d pass0 ha hdb he hpl
/-- a module's constant -/
theorem pe_gi {i : Int} (hg : Gl X x) (h : ∃ t, X.mg x = some (.int i t)) (hdb : (x == ("__debug__" : Str)) = false := by decide) : PE X (.Name x pos) (tC (.int i)) := by
  have ⟨t, ht⟩ := h
  exact pe_glob (v := .int i) hg ht ⟨t, rfl⟩ hdb
end
/-! x = {k: v for ..} on one line, x a local -/
section
variable {X : Cx}
theorem ps_setDc {i : Nat} {y : Str} {py : Pos} {kx vx tg iter : Expr} {ifs : List Expr} {scope : Scope} {own : List (Str × Nat)} {pos spos : Pos} {wi : TI} {g : TG} {tt : TT} {tk tv : TE} (hc : X.calm = true) (hN : X.N.Nodup) (hy : X.N[i]? = some y) (hyl : X.env.scope.names.lookup y = some .local)
    (hsw : swapsWith (.DictComp kx vx [⟨tg, iter, ifs, 0⟩] scope pos) (some (.Name y py)) spos.line X.env = pure true) (hi : PI X tg iter wi) (ok : BlkOk X.N X.env.scope scope own)
    (hg : ∀ (s : Shared) (H : Hp) (C : Addr) (cl : List (Str × Addr)) (fp : List Addr), PG (X.blk s H scope (compEnvC scope cl C X.env) fp) tg g) (ht : ∀ (s : Shared) (H : Hp) (C : Addr) (cl : List (Str × Addr)) (fp : List Addr), PTs (X.blk s H scope (compEnvC scope cl C X.env) fp) ifs tt)
    (hk : ∀ (s : Shared) (H : Hp) (C : Addr) (cl : List (Str × Addr)) (fp : List Addr), PE (X.blk s H scope (compEnvC scope cl C X.env) fp) kx tk)
    (he : ∀ (s : Shared) (H : Hp) (C : Addr) (cl : List (Str × Addr)) (fp : List Addr), PE (X.blk s H scope (compEnvC scope cl C X.env) fp) vx tv) (hs : ∀ x, foldedSetIterable iter X.env x = pure x := by intro _; rfl) :
    PS X (.Assign [.Name y py] (.DictComp kx vx [⟨tg, iter, ifs, 0⟩] scope pos) spos) (tAsg (tDc wi g tt tk tv (own.map (·.2))) (gName i)) := by
  refine ⟨fun pins s0 σ0 H0 D I0 h0 => ?_⟩
  rw [exec_Assign_Name_used _ _ _ _ hsw]
  refine wpAny_bind (wpAny_standAt (wpAny_bind ?_))
  show wpAny _ X.A (do let _ ← comprehension (.DictComp kx vx [⟨tg, iter, ifs, 0⟩] scope pos) scope X.env (firstIterPos [⟨tg, iter, ifs, 0⟩] pos) newDict false (eval iter X.env) (some (assign (.Name y py) X.env))) _ _ s0
  have h1 : tDc wi g tt tk tv (own.map (·.2)) σ0 H0 (fun x H1 => gName i x σ0 H1 D.nx) := h0
  refine wpAny_bind (thn (dc_core (Qf := fun _ s' => SP X pins D .next s') hc hN I0 hi ok hg ht hk he hs h1 fun L C s1 m H1 I1 q1 n1 f1 => ?_) fun _ _ hq => wpAny_pure (wpAny_pure hq))
  show wpAny _ _ (assign (.Name y py) X.env (.ref L)) _ _ _
  refine wpAny_assign_Name (store_ok2 (v := V.ref L) I1 hN hy (.inl hyl) rfl (fun s2 I2 ⟨a, sb, ha⟩ => ?_) (.inr hyl))
  have ⟨g0, g1, g2, g3, g4, g5⟩ := f1
  have hCa : C ≠ a := ha.elim (fun z => by rw [z]; exact g1) fun z e => g4 y a z e.symm
  exact ⟨m, n1.sameBut sb hCa, fun h3 sb3 => ⟨_, H1, I2.turned (t' := s2.toks) (fun b o hb e => (sb3.2 b hb).trans e) g0 g1 g3 g4 g5, q1⟩⟩
theorem sw_trueD {kx vx : Expr} {gs : List Comprehension} {scope : Scope} {pos py : Pos} {y : Str} {l : Nat} {env : Env} (hk : env.scope.kind = .function) (hy : env.scope.names.lookup y = some .local) (hl : (py.line == pos.line) = true)
    (ha : (scope.names.any fun (n, k) => n == y && (k == .local || k == .cell)) = false) : swapsWith (.DictComp kx vx gs scope pos) (some (.Name y py)) l env = pure true := by
  have k1 : env.kindOf y = some .local := hy
  have k2 : env.blockKind = .function := by rw [Env.blockKind, hk]; rfl
  simp only [swapsWith, k2, k1, ha, Expr.pos, hl]
  rfl
end
/-! for i, x in enumerate(a tuple) -/
def IteT (K : PySem.W.Frag) (a : Addr) : It :=
  ⟨fun i H => ∃ (xs : List V) (x : V), SqT K H a xs ∧ xs[i]? = some x, fun i H v H' => ∃ T x, v = .ref T ∧ H T = none ∧ H' = upd H T (.tup [.int (i : Nat), x]) ∧ ∀ xs, SqT K H a xs → xs[i]? = some x, fun i H => ∃ xs : List V, SqT K H a xs ∧ xs.length ≤ i⟩
theorem meets_enum1 {v : Value} {o : Obj} {H : Heap → Prop} (B : Begins v o H) :
    Meets (Builtin.«enumerate.__new__» ⟨[.type "enumerate", v], []⟩) (fun _ R s => H s.heap ∧
      R (.ok (.ret (.ref (s.heap.push o).objs.size))) { s with heap := (s.heap.push o).push { cls := .type "enumerate", data := .fields #[.none, .bool false, .ref s.heap.objs.size, rawInt 0, .none, .none] } }) :=
  .of_wp fun prog w A R s h => by
    obtain ⟨hp, g, d, tk, os⟩ := s; have ⟨h1, h2⟩ := h
    have hsub := sub_enumerate
    have q1 : ∀ {A' : Around} {E : Value → Shared → Prop} {Q : Value → Shared → Prop}, Q (.ref hp.objs.size) ⟨hp.push o, g, d, tk, os⟩ → wpAny (model prog w) A' (pyIter v) Q E ⟨hp, g, d, tk, os⟩ :=
      fun q => B.iter prog w _ _ ⟨hp, g, d, tk, os⟩ _ h1 q
    wp_walk using q1
    refine wpAny_stack_any fun st => wpAny_pure ?_
    split
    · rename_i c _ _ _ _ _
      cases (c == Value.type "enumerate") <;> (wp_walk using q1; exact ⟨_, rfl, h2⟩)
    · wp_walk using q1
      exact ⟨_, rfl, h2⟩
theorem enum_begins1 {prog : Program} {w : World} {A : Around} {E : Value → Shared → Prop} {s : Shared} {v : Value} {o : Obj} {H : Heap → Prop} {Q : Value → Shared → Prop} (B : Begins v o H) (h1 : H s.heap)
    (h : ∀ h', IsEnum h' (s.heap.objs.size + 1) s.heap.objs.size 0 .none → h'.get? s.heap.objs.size = some o → h'.objs.size = s.heap.objs.size + 2 → (∀ b o, s.heap.get? b = some o → h'.get? b = some o) → Q (.ref (s.heap.objs.size + 1)) { s with heap := h' }) :
    wpAny (model prog w) A (call (.type "enumerate") [v]) Q E s := by
  refine callType_new F.called_enumerate (by decide) (F.typeCall_enumerate_1 _) (F.newCall_enumerate_1 _) (fun obj => F.args_object_init_2 obj _) F.entry_enumerate_new (meets_enum1 B) ⟨h1, ?_⟩
  have hz : (s.heap.push o).objs.size = s.heap.objs.size + 1 := Heap.size_push ..
  show _ ∧ _; rw [hz]
  have he : IsEnum ((s.heap.push o).push { cls := .type "enumerate", data := .fields #[.none, .bool false, .ref s.heap.objs.size, rawInt 0, .none, .none] }) (s.heap.objs.size + 1) s.heap.objs.size 0 .none := by
    have := Heap.get?_push_size (s.heap.push o) (o := { cls := .type "enumerate", data := .fields #[.none, .bool false, .ref s.heap.objs.size, rawInt 0, .none, .none] }) rfl
    rwa [hz] at this
  exact ⟨⟨_, he, rfl⟩, h _ he (Heap.get?_push_of_some _ (Heap.get?_push_size _ B.free)) (by rw [Heap.size_push, hz]) fun b o x => Heap.get?_push_of_some _ (Heap.get?_push_of_some _ x)⟩
theorem turn_enumT {P : Program} {w : World} {K : PySem.W.Frag} {elts : List Expr} {kk : Nat} {tpos : Pos} (a e it : Addr) :
    Turn P w K (.Tuple elts kk tpos) (IteT K a) [e, it] e (fun i h => (∃ old, IsEnum h e it ((i : Nat) : Int) old) ∧ h.IsTupleIter it a i ∧ e ≠ it ∧ a ≠ it ∧ a ≠ e) where
  mem := List.mem_cons_self
  obj := fun i h st b hb => by
    have ⟨⟨old, he⟩, ⟨o, ho, hc, hd⟩, _⟩ := st
    rcases (show b = e ∨ b = it by simpa using hb) with z | z <;> rw [z]
    · exact ⟨_, he, fun v q => nomatch q⟩
    · exact ⟨o, ho, fun v q => by rw [hd] at q; cases q⟩
  keep := fun i h h' st k => ⟨st.1.imp fun old he => k e (by simp) _ he, st.2.1.at fun o q => k it (by simp) o q, st.2.2⟩
  item := fun X hP hw hK hc i pins s σ H E I hf st hg => by
    subst hP hw hK
    have ⟨⟨old, he⟩, hit, hne, hai, hae⟩ := st
    have ⟨xs, x, hq, hx⟩ := hg
    have ⟨its, rv, p, hz⟩ := I.tuple hq
    have ⟨u, hu, ru⟩ := rv.get hx
    have hel : e < s.heap.objs.size := Heap.lt_size he
    have hil : it < s.heap.objs.size := hit.elim fun _ q => Heap.lt_size q.1
    have hlt : i < its.toArray.size := by rw [List.size_toArray]; exact (List.getElem?_eq_some_iff.mp hu).1
    have pt : s.heap.IsTuple a its.toArray := p
    refine wpAny_pyNext_enum_itemD (Draws.tuple (A := X.A.in1) (show X.A.in1.handled = none from I.ok.hd hc) it a hai its.toArray) he ⟨hit, pt⟩ hlt hne (by simp [hne, hae.symm]) fun x' h' tk hPx ho hst' hT hsz hk => ?_
    have ex : x' = u := by
      have z : its.toArray[i]? = some x' := hPx
      rw [List.getElem?_toArray, hu] at z
      exact (Option.some.inj z).symm
    subst ex
    refine ⟨_, rfl, wpAny_letOwnedTupleGo_enum (s := { s with heap := h', toks := tk + 1 }) ho fun h'' he' sb => ?_⟩
    have hT2 : h''.get? s.heap.objs.size = some { cls := .type "tuple", data := .seq #[.int i tk, x'] } := (sb.2 _ (Nat.ne_of_gt hel)).trans hT
    have new : ObjOk X.prog X.w (upd H s.heap.objs.size (.tup [.int (i : Nat), x])) h'' s.heap.objs.size (.tup [.int (i : Nat), x]) := ⟨(by decide : 2 ≤ sizeLine), [.int i tk, x'], .cons ⟨_, rfl⟩ (.cons ru .nil), ⟨_, hT2, rfl, _, rfl⟩⟩
    have lt' : ∀ b, b ∈ [e, it] → b < s.heap.objs.size := fun b hb => by
      rcases (show b = e ∨ b = it by simpa using hb) with z | z <;> rw [z] <;> assumption
    have I1 : Inv X pins σ (upd H s.heap.objs.size (.tup [.int (i : Nat), x])) { s with heap := h'', toks := tk + 1 } :=
      I.turnedNew (ch := [e, it]) (fun b ob hb q => (sb.2 b fun z => hb (by simp [z])).trans (hk b ob (fun z => hb (by simp [z])) (fun z => hb (by simp [z])) q)) hf (Nat.le_refl _) new
    refine ⟨.ref s.heap.objs.size, _, I1, rfl, ⟨_, x, rfl, I.hok.fresh (Nat.le_refl _), rfl, fun ys hy => by rw [I.tuple_inj hy hq]; exact hx⟩, ⟨⟨x', ?_⟩, hst'.1.at fun o q => (sb.2 it (Ne.symm hne)).trans q, hne, hai, hae⟩, fun b hb => ?_⟩
    · rw [show ((i + 1 : Nat) : Int) = (i : Int) + 1 by omega]; exact he'
    · rw [upd_ne (Nat.ne_of_lt (lt' b hb))]
      exact (hf b hb).1
  done := fun X hP hw hK hc i pins s σ H E I hf st hg => by
    subst hP hw hK
    have ⟨⟨old, he⟩, hit, hne, hai, hae⟩ := st
    have ⟨xs, hq, hx⟩ := hg
    have ⟨its, rv, p, hz⟩ := I.tuple hq
    have ⟨f0, f1, f2, f3, f4, f5⟩ := hf it (by simp)
    have hl := rv.length
    have pt : s.heap.IsTuple a its.toArray := p
    have D0 : Draws X.prog X.w X.A.in1 it [it, a] 0 (fun _ _ => False) (fun _ h => h.IsTupleIter it a i ∧ h.IsTuple a its.toArray) :=
      { live := fun _ _ st => st.1.imp fun _ q => q.1
        frame := fun _ _ _ st hk => ⟨st.1.at fun o e => hk it (by simp) o e, st.2.at fun o e => hk a (by simp) o e⟩
        item := fun j s Q E hj => absurd hj (Nat.not_lt_zero _)
        done := fun s Q E st hE => wpAny_nextOf_tuple_end (show X.A.in1.handled = none from I.ok.hd hc) st.1 st.2 (by simp; omega) hE }
    exact wpAny_pyNext_enum_endD D0 he ⟨hit, pt⟩ fun h' eb => ⟨rfl, I.turned (t' := s.toks) (fun b o hb q => eb b o hb q) f0 f1 f3 f4 f5⟩
  self := fun A i s Q E st h => st.1.elim fun _ he => wpAny_pyIter_enum he h
def iEnumT (K : PySem.W.Frag) (ta : TA) : TI := fun σ H R => ta σ H fun vs H1 => ∃ a xs, vs = [.ref a] ∧ SqT K H1 a xs ∧ R (IteT K a) H1
theorem pi_enumT {X : Cx} {e : Expr} {ta : TA} {p pos tpos : Pos} {elts : List Expr} {kk : Nat} (hg : Gl X "enumerate") (hm : X.mg "enumerate" = none) (ha : PA X [e] ta) (hs : starEach [e] X.env = [(false, eval e X.env)] := by rfl) :
    PI X (.Tuple elts kk tpos) (.Call (.Name "enumerate" p) [e] [] pos) (iEnumT X.K ta) := by
  refine ⟨fun pins s0 σ0 H0 R I0 h0 => ?_⟩
  refine Call_ (ld_blt I0 hg hm boot_enumerate (PyProof.Rows.callWith_type1 (thn (ha.run pos pins s0 σ0 H0 _ I0 h0) fun us s1 ⟨vs, H1, I1, r1, q1⟩ => ?_) hs rfl))
  have ⟨a, xs, ex, hq, q⟩ := q1
  subst ex
  cases r1 with
  | cons r rr =>
    cases rr; cases r
    have ⟨its, rv, p', hz⟩ := I1.tuple hq
    have pt : s1.heap.IsTuple a its.toArray := p'
    refine enum_begins1 (begins_tuple a its.toArray) pt fun h' he hit hsz hk => wpAny_pyIter_enum he ?_
    have I2 : Inv X pins σ0 H1 { s1 with heap := h' } := I1.kept (t' := s1.toks) hk
    have hal : a < s1.heap.objs.size := pt.elim fun _ q => Heap.lt_size q.1
    refine ⟨s1.heap.objs.size + 1, [s1.heap.objs.size + 1, s1.heap.objs.size], _, _, H1, rfl, I2, turn_enumT a (s1.heap.objs.size + 1) s1.heap.objs.size, ⟨⟨.none, he⟩, ⟨_, hit, rfl, rfl⟩, Nat.succ_ne_self _, Nat.ne_of_lt hal, Nat.ne_of_lt (Nat.lt_succ_of_lt hal)⟩, fun b hb => ?_, q⟩
    have hle : s1.heap.objs.size ≤ b := by
      rcases (show b = s1.heap.objs.size + 1 ∨ b = s1.heap.objs.size by simpa using hb) with z | z <;> rw [z]
      · exact Nat.le_add_right _ _
      · exact Nat.le_refl _
    exact I1.fpOk hle (I1.hok.fresh hle)
/-! the same rules with the written part by its name (their readings must not name a comprehension's own block) -/
section
variable {X : Cx} (K : PySem.W.Frag)
def rLenQ : List V → Hp → VK → Prop := fun xs H Q => ∃ p ys, xs = [.ref p] ∧ (SqL K H p ys ∨ SqT K H p ys) ∧ Q (.int ys.length) H
def rListQ : List V → Hp → VK → Prop := fun xs H Q => ∃ p ys, xs = [.ref p] ∧ (SqL K H p ys ∨ SqT K H p ys) ∧ ∀ l, H l = none → Q (.ref l) (upd H l (.lst ys))
def rTupQ : List V → Hp → VK → Prop := fun xs H Q => ∃ p ys, xs = [.ref p] ∧ (H p = some (.lst ys) ∨ H p = some (.tup ys)) ∧ ∀ H' l, Same H H' → (H l = none ∨ l = p) → H' l = some (.tup ys) → Q (.ref l) H'
theorem kLen (h : X.K = K := by rfl) : CallR X (.builtin "len") (rLenQ K) := by subst h; exact call_len_seq
theorem kList (h : X.K = K := by rfl) : CallR X (.type "list") (rListQ K) := by subst h; exact call_list_of
theorem kTuple : CallR X (.type "tuple") rTupQ := fun pins s σ H xs us Q I r ⟨p, ys, ex, hp, q⟩ =>
  call_tuple_of pins s σ H xs us Q I r ⟨p, ys, ex, hp.elim (fun h => .inl ⟨.inl (.inl h), fun l nl => q _ l (fun b x e => by rw [upd_ne (ne_of_none e nl)]; exact e) (.inl nl) upd_same⟩) fun h => .inr ⟨.inl (.inl h), q H p (Same.refl H) (.inr rfl) h⟩⟩
theorem kSum (hc : X.calm = true) (h : X.K = K := by rfl) : CallR X (.builtin "sum") (rSum K) := by subst h; exact cr_sum hc
theorem kAll (hc : X.calm = true) (h : X.K = K := by rfl) : CallR X (.builtin "all") (rAll K) := by subst h; exact cr_all hc
theorem kSortedS (h : X.K = K := by rfl) : CallR X (.builtin "sorted") (rSortedS K) := by subst h; exact cr_sortedS
theorem kIsi (h : X.K = K := by rfl) : CallR X (.builtin "isinstance") (rIsi K) := by subst h; exact call_isi
theorem kIsiT (h : X.K = K := by rfl) : CallR X (.builtin "isinstance") (rIsiT K) := by subst h; exact call_isiT
theorem kEqD (hu : X.A.units + 64 < cLine) (h : X.K = K := by rfl) : OpR X (compareOp .Eq) (rEqD K) := by subst h; exact op_eqD hu
theorem kNeD (hu : X.A.units + 64 < cLine) (h : X.K = K := by rfl) : OpR X (compareOp .NotEq) (rNeD K) := by subst h; exact op_neD hu
theorem kIn (h : X.K = K := by rfl) : OpR X (compareOp .In) (rIn K false) := by subst h; exact op_in_seq
theorem kNotIn (h : X.K = K := by rfl) : OpR X (compareOp .NotIn) (rIn K true) := by subst h; exact op_notIn_seq
/-- tuple + tuple, a part of a tuple, tuple(x): a tuple stands there, new or not -/
def rCatU : R2 := fun x y H Q => ∃ a b xs ys, x = .ref a ∧ y = .ref b ∧ H a = some (.tup xs) ∧ H b = some (.tup ys) ∧ xs.length + ys.length ≤ sizeLine ∧ ∀ H' p, Same H H' → (H p = none ∨ p = a ∨ p = b) → H' p = some (.tup (xs ++ ys)) → Q (.ref p) H'
theorem new_same {H : Hp} {p : Addr} {o : HO} (h : H p = none) : Same H (upd H p o) := fun b x e => by rw [upd_ne (ne_of_none e h)]; exact e
theorem kCatT : OpR X (binaryOp .Add) rCatU := fun pins s σ H x y v u Q I rx ry ⟨a, b, xs, ys, ex, ey, ha, hb, hl, q⟩ =>
  op_catA pins s σ H x y v u Q I rx ry ⟨a, b, xs, ys, ex, ey, .inl (.inl ha), .inl (.inl hb), hl, fun e => by subst e; exact q H b (Same.refl H) (.inr (.inr rfl)) hb, fun _ e => by subst e; exact q H a (Same.refl H) (.inr (.inl rfl)) (by rw [List.append_nil]; exact ha), fun _ _ p np => q _ p (new_same np) (.inl np) upd_same⟩
def rSlU : V → Option Int → Option Int → Hp → VK → Prop := fun x lo hi H Q => ∃ a xs, x = .ref a ∧ H a = some (.tup xs) ∧ ∀ H' p, Same H H' → (H p = none ∨ p = a) → H' p = some (.tup (cutV xs lo hi)) → Q (.ref p) H'
theorem kSlT : SlR X rSlU := fun pins s σ H x v vl vu lo hi sl Q I rx hs pl pu ⟨a, xs, ex, ha, q⟩ =>
  sl_tupA pins s σ H x v vl vu lo hi sl Q I rx hs pl pu ⟨a, xs, ex, .inl (.inl ha), fun ⟨e1, e2⟩ => q H a (Same.refl H) (.inr rfl) (by unfold cutV; rw [e1, e2, List.drop_zero, Nat.sub_zero, List.take_length]; exact ha), fun _ p np => q _ p (new_same np) (.inl np) upd_same⟩
theorem kIxL (h : X.K = K := by rfl) : IxR X (rIxL K) := by subst h; exact ix_list
theorem kIxT (h : X.K = K := by rfl) : IxR X (rIxT K) := by subst h; exact ix_tup
theorem kIxQ (h : X.K = K := by rfl) : IxR X (rIx K) := by subst h; exact ix_seq
theorem kSlL (h : X.K = K := by rfl) : SlR X (rSlL K) := by subst h; exact sl_list
theorem kpg_tup {es : List Expr} {k : Nat} {t : TGs} {n : Nat} {pos : Pos} (hc : X.calm = true) (h : PGs X es t) (hk : X.K = K := by rfl) (hn : (assignEach es X.env).length = n := by rfl) (hst : (assignEach es X.env).findIdx? (·.1) = none := by rfl) : PG X (.Tuple es k pos) (gTup K n t) := by
  subst hk; exact pg_tup hc h hn hst
theorem kpi_list {tg l : Expr} {tl : TE} (hl : PE X l tl) (h : X.K = K := by rfl) : PI X tg l (iList K tl) := by subst h; exact pi_list hl
theorem kpi_tup {tg l : Expr} {tl : TE} (hl : PE X l tl) (h : X.K = K := by rfl) : PI X tg l (iTup K tl) := by subst h; exact pi_tup hl
theorem kpi_zip {e e2 : Expr} {ta : TA} {p pos tpos : Pos} {elts : List Expr} {kk : Nat} (hg : Gl X "zip") (hm : X.mg "zip" = none) (ha : PA X [e, e2] ta) (h : X.K = K := by rfl)
    (hs : starEach [e, e2] X.env = (false, eval e X.env) :: starEach [e2] X.env := by rfl) (hpl : (backTo pos (starEach [e2] X.env)).any (·.1) = false := by rfl) : PI X (.Tuple elts kk tpos) (.Call (.Name "zip" p) [e, e2] [] pos) (iZip K ta) := by
  subst h; exact pi_zip hg hm ha hs hpl
theorem kpi_enum {e : Expr} {ta : TA} {p pos tpos : Pos} {elts : List Expr} {kk : Nat} (hg : Gl X "enumerate") (hm : X.mg "enumerate" = none) (ha : PA X [e] ta) (h : X.K = K := by rfl) (hs : starEach [e] X.env = [(false, eval e X.env)] := by rfl) :
    PI X (.Tuple elts kk tpos) (.Call (.Name "enumerate" p) [e] [] pos) (iEnum K ta) := by subst h; exact pi_enum hg hm ha hs
theorem kpi_enumT {e : Expr} {ta : TA} {p pos tpos : Pos} {elts : List Expr} {kk : Nat} (hg : Gl X "enumerate") (hm : X.mg "enumerate" = none) (ha : PA X [e] ta) (h : X.K = K := by rfl) (hs : starEach [e] X.env = [(false, eval e X.env)] := by rfl) :
    PI X (.Tuple elts kk tpos) (.Call (.Name "enumerate" p) [e] [] pos) (iEnumT K ta) := by subst h; exact pi_enumT hg hm ha hs
theorem kfld {e : Expr} {f : Str} {ta : TE} {pos : Pos} (he : PE X e ta) (hb : attributeBase e f X.env (eval e X.env) = eval e X.env := by rfl) (h : X.K = K := by rfl) : PE X (.Attribute e f pos) (tFld K ta f) := by subst h; exact pe_fld he hb
end
/-- a built-in class as a value -/
theorem pe_ty {X : Cx} {x : Str} {pos : Pos} (n : String) (hg : Gl X x) (hm : X.mg x = none) (hv : bootBuiltins x = some (.type n)) (hn : x ≠ "__name__" := by decide) (hd : (x == ("__debug__" : Str)) = false := by decide) : PE X (.Name x pos) (tC (.ty n)) :=
  pe_bltn (v := .ty n) hg hm hv rfl hn hd
end Ls

namespace Df
variable {α : Type} [DecidableEq α]
/-- a difference: left, right, limit -/
abbrev Row (α : Type) := α × α × Int
def Solves (S : List (Row α)) (p : α → Int) : Prop := ∀ e ∈ S, p e.1 - p e.2.1 ≤ e.2.2
def put {β : Type} (f : α → β) (a : α) (v : β) : α → β := fun x => if x = a then v else f x
theorem put_same {β : Type} {f : α → β} {a : α} {v : β} : put f a v a = v := if_pos rfl
theorem put_ne {β : Type} {f : α → β} {a x : α} {v : β} (h : x ≠ a) : put f a v x = f x := if_neg h
def ins (ks : List α) (a : α) : List α := if a ∈ ks then ks else ks ++ [a]
theorem mem_ins {ks : List α} {a x : α} : x ∈ ins ks a ↔ x ∈ ks ∨ x = a := by
  unfold ins
  split
  · rename_i h
    constructor
    · exact Or.inl
    · rintro (h' | rfl)
      · exact h'
      · exact h
  · simp
theorem nd_ins {ks : List α} {a : α} (h : ks.Nodup) : (ins ks a).Nodup := by
  unfold ins
  split
  · exact h
  · rename_i hn
    rw [List.nodup_append]
    refine ⟨h, by simp, fun x hx y hy => ?_⟩
    rw [List.mem_singleton.mp hy]
    exact fun e => hn (e ▸ hx)

/-- the state of the rounds, turn t, place p; w worth, ks and b the names and positions of before, τ the time of a name's last update -/
structure BF (S : List (Row α)) (w : α → Int) (ks : List α) (b : α → Nat) (τ : α → Nat) (t p : Nat) : Prop where
  nd : ks.Nodup
  mem : ∀ x, x ∈ ks ↔ 0 < τ x
  pre : ∀ x, x ∈ ks → ∃ e, S[b x]? = some e ∧ e.1 = x ∧ w e.2.1 + e.2.2 ≤ w x ∧ (τ e.2.1 < τ x ∨ w e.2.1 + e.2.2 < w x) ∧ τ x ≤ τ e.2.1 + S.length
  le : ∀ x, τ x ≤ t * S.length + p
  sat : ∀ (q : Nat) e, S[q]? = some e → w e.1 ≤ w e.2.1 + e.2.2 ∨ (q < p → t * S.length + q + 1 < τ e.2.1) ∧ (p ≤ q → t = 0 ∨ t * S.length + q + 1 < τ e.2.1 + S.length)

theorem BF.start (S : List (Row α)) (w : α → Int) (b : α → Nat) : BF S w [] b (fun _ => 0) 0 0 where
  nd := List.nodup_nil
  mem := fun x => by simp
  pre := fun x h => by simp at h
  le := fun x => Nat.zero_le _
  sat := fun q e h => .inr ⟨fun z => absurd z (Nat.not_lt_zero _), fun _ => .inl rfl⟩

theorem BF.turn {S : List (Row α)} {w : α → Int} {ks : List α} {b : α → Nat} {τ : α → Nat} {t : Nat} (h : BF S w ks b τ t S.length) : BF S w ks b τ (t + 1) 0 where
  nd := h.nd
  mem := h.mem
  pre := h.pre
  le := fun x => by
    have := h.le x
    rw [Nat.succ_mul]
    exact this
  sat := fun q e he => by
    rcases h.sat q e he with z | ⟨z, _⟩
    · exact .inl z
    · refine .inr ⟨fun k => absurd k (Nat.not_lt_zero _), fun _ => .inr ?_⟩
      have hq : q < S.length := (List.getElem?_eq_some_iff.mp he).1
      have := z hq
      rw [Nat.succ_mul]
      omega

theorem BF.keep {S : List (Row α)} {w : α → Int} {ks : List α} {b : α → Nat} {τ : α → Nat} {t p : Nat} {l r : α} {c : Int} (h : BF S w ks b τ t p) (he : S[p]? = some (l, r, c)) (hs : w l ≤ w r + c) : BF S w ks b τ t (p + 1) where
  nd := h.nd
  mem := h.mem
  pre := h.pre
  le := fun x => by have := h.le x; omega
  sat := fun q e hq => by
    by_cases hqp : q = p
    · subst hqp
      rw [he] at hq
      cases hq
      exact .inl hs
    · rcases h.sat q e hq with z | ⟨z1, z2⟩
      · exact .inl z
      · exact .inr ⟨fun k => z1 (by omega), fun k => z2 (by omega)⟩

theorem BF.step {S : List (Row α)} {w : α → Int} {ks : List α} {b : α → Nat} {τ : α → Nat} {t p : Nat} {l r : α} {c : Int} (h : BF S w ks b τ t p) (he : S[p]? = some (l, r, c)) (hne : ∀ e ∈ S, e.1 ≠ e.2.1) (hv : w r + c < w l) :
    BF S (put w l (w r + c)) (ins ks l) (put b l p) (put τ l (t * S.length + p + 1)) t (p + 1) := by
  have hp : p < S.length := (List.getElem?_eq_some_iff.mp he).1
  have hlr : r ≠ l := fun z => hne _ (List.mem_of_getElem? he) z.symm
  have hnew : t * S.length + p + 1 ≤ τ r + S.length := by
    rcases h.sat p _ he with z | ⟨_, z⟩
    · exact absurd z (by show ¬ w l ≤ w r + c; omega)
    · rcases z (Nat.le_refl _) with z | z
      · subst z; omega
      · have z : t * S.length + p + 1 < τ r + S.length := z
        omega
  refine ⟨nd_ins h.nd, fun x => ?_, fun x hx => ?_, fun x => ?_, fun q e hq => ?_⟩
  · rw [mem_ins]
    by_cases hx : x = l
    · subst hx
      rw [put_same]
      simp
    · rw [put_ne hx, h.mem x]
      simp [hx]
  · by_cases hxl : x = l
    · subst hxl
      refine ⟨(x, r, c), by rw [put_same]; exact he, rfl, ?_, .inl ?_, ?_⟩
      · show put w x (w r + c) r + c ≤ put w x (w r + c) x
        rw [put_same, put_ne hlr]
        exact Int.le_refl _
      · show put τ x _ r < put τ x _ x
        rw [put_same, put_ne hlr]
        have := h.le r
        omega
      · show put τ x _ x ≤ put τ x _ r + _
        rw [put_same, put_ne hlr]
        exact hnew
    · have hx' : x ∈ ks := (mem_ins.mp hx).resolve_right hxl
      obtain ⟨e, e1, e2, e3, e4, e5⟩ := h.pre x hx'
      refine ⟨e, by rw [put_ne hxl]; exact e1, e2, ?_⟩
      rw [put_ne hxl, put_ne hxl]
      by_cases hr : e.2.1 = l
      · rw [hr, put_same, put_same]
        rw [hr] at e3 e5
        have := h.le x
        refine ⟨by omega, .inr (by omega), ?_⟩
        have := h.le l
        omega
      · rw [put_ne hr, put_ne hr]
        exact ⟨e3, e4, e5⟩
  · by_cases hx : x = l
    · subst hx
      rw [put_same]
      omega
    · rw [put_ne hx]
      have := h.le x
      omega
  · by_cases hqp : q = p
    · subst hqp
      rw [he] at hq
      cases hq
      refine .inl ?_
      show put w l (w r + c) l ≤ put w l (w r + c) r + c
      rw [put_same, put_ne hlr]
      exact Int.le_refl _
    · by_cases hr : e.2.1 = l
      · right
        rw [hr, put_same]
        have hq' : q < S.length := (List.getElem?_eq_some_iff.mp hq).1
        exact ⟨fun k => by omega, fun k => .inr (by omega)⟩
      · rw [put_ne hr, put_ne hr]
        have hle : put w l (w r + c) e.1 ≤ w e.1 := by
          by_cases hl : e.1 = l
          · rw [hl, put_same]; omega
          · rw [put_ne hl]; exact Int.le_refl _
        rcases h.sat q e hq with z | ⟨z1, z2⟩
        · left
          exact Int.le_trans hle z
        · right
          exact ⟨fun k => z1 (by omega), fun k => z2 (by omega)⟩

/-! ### going back -/
def nx (S : List (Row α)) (b : α → Nat) (x : α) : α := match S[b x]? with
  | some e => e.2.1
  | none => x
def it (S : List (Row α)) (b : α → Nat) : Nat → α → α
  | 0, x => x
  | i + 1, x => nx S b (it S b i x)
theorem it_add (S : List (Row α)) (b : α → Nat) (i : Nat) (x : α) : ∀ j, it S b (i + j) x = it S b j (it S b i x)
  | 0 => rfl
  | j + 1 => by
    show nx S b (it S b (i + j) x) = nx S b (it S b j (it S b i x))
    rw [it_add S b i x j]
theorem it_succ (S : List (Row α)) (b : α → Nat) (i : Nat) (x : α) : it S b (i + 1) x = it S b i (nx S b x) := by
  rw [Nat.add_comm]
  exact it_add S b 1 x i
theorem BF.nx_of {S : List (Row α)} {w : α → Int} {ks : List α} {b : α → Nat} {τ : α → Nat} {t p : Nat} (h : BF S w ks b τ t p) {x : α} (hx : x ∈ ks) :
    ∃ c, S[b x]? = some (x, nx S b x, c) ∧ w (nx S b x) + c ≤ w x ∧ (τ (nx S b x) < τ x ∨ w (nx S b x) + c < w x) ∧ τ x ≤ τ (nx S b x) + S.length := by
  obtain ⟨⟨l, r, c⟩, e1, e2, e3, e4, e5⟩ := h.pre x hx
  have e2 : l = x := e2
  subst e2
  have en : nx S b l = r := by unfold nx; rw [e1]
  rw [en]
  exact ⟨c, e1, e3, e4, e5⟩

theorem nodup_le {l ks : List α} : l.Nodup → (∀ x ∈ l, x ∈ ks) → l.length ≤ ks.length := by
  induction l generalizing ks with
  | nil => intro _ _; exact Nat.zero_le _
  | cons a r ih =>
    intro h hs
    have ha : a ∈ ks := hs a List.mem_cons_self
    have hr := List.nodup_cons.mp h
    have := ih (ks := ks.erase a) hr.2 fun x hx => (List.mem_erase_of_ne (fun (e : x = a) => hr.1 (e ▸ hx))).mpr (hs x (List.mem_cons_of_mem _ hx))
    rw [List.length_erase_of_mem ha] at this
    have : 0 < ks.length := List.length_pos_of_mem ha
    simp only [List.length_cons]
    omega
theorem least {P : Nat → Prop} : ∀ n, P n → ∃ m, P m ∧ ∀ k, k < m → ¬ P k := by
  intro n
  induction n using Nat.strongRecOn with
  | ind n ih =>
    intro h
    by_cases hk : ∃ k, k < n ∧ P k
    · obtain ⟨k, h1, h2⟩ := hk
      exact ih k h1 h2
    · exact ⟨n, h, fun k h1 h2 => hk ⟨k, h1, h2⟩⟩
/-- two places of a long row of names out of few are alike -/
theorem pigeon {ks : List α} {f : Nat → α} {k : Nat} (hk : ks.length ≤ k) (h : ∀ i, i ≤ k → f i ∈ ks) : ∃ i j, i < j ∧ j ≤ k ∧ f i = f j := by
  refine Classical.byContradiction fun hn => ?_
  have hnd : ((List.range (k + 1)).map f).Nodup := by
    rw [List.nodup_iff_pairwise_ne, List.pairwise_map]
    refine List.Pairwise.imp_of_mem ?_ List.pairwise_lt_range
    intro a b ha hb hab e
    exact hn ⟨a, b, hab, by have := List.mem_range.mp hb; omega, e⟩
  have := nodup_le hnd (ks := ks) fun x hx => by
    obtain ⟨i, hi, rfl⟩ := List.mem_map.mp hx
    exact h i (by have := List.mem_range.mp hi; omega)
  simp only [List.length_map, List.length_range] at this
  omega

/-- the last name updated in round n leads back into before as often as one likes, and after ks.length + 1 steps it is on a ring -/
theorem BF.back {S : List (Row α)} {w : α → Int} {ks : List α} {b : α → Nat} {τ : α → Nat} {n p : Nat} {x : α} (h : BF S w ks b τ n p) (hn : ks.length ≤ n) (hx : n * S.length < τ x) : ∀ i, i ≤ ks.length → it S b i x ∈ ks := by
  have key : ∀ i, i ≤ ks.length → n * S.length < τ (it S b i x) + i * S.length := by
    intro i
    induction i with
    | zero => intro _; simpa [it] using hx
    | succ i ih =>
      intro hi
      have hi' := ih (by omega)
      have hm : i * S.length ≤ n * S.length := Nat.mul_le_mul_right _ (by omega)
      have hk : it S b i x ∈ ks := (h.mem _).mpr (by omega)
      obtain ⟨c, _, _, _, e⟩ := h.nx_of hk
      have e : τ (it S b i x) ≤ τ (it S b (i + 1) x) + S.length := e
      rw [Nat.succ_mul]
      omega
  intro i hi
  have := key i hi
  have hm : i * S.length ≤ n * S.length := Nat.mul_le_mul_right _ (by omega)
  exact (h.mem _).mpr (by omega)
theorem BF.ringed {S : List (Row α)} {w : α → Int} {ks : List α} {b : α → Nat} {τ : α → Nat} {n p : Nat} {x : α} (h : BF S w ks b τ n p) (hn : ks.length ≤ n) (hx : n * S.length < τ x) :
    ∃ d, 0 < d ∧ it S b d (it S b (ks.length + 1) x) = it S b (ks.length + 1) x ∧ (∀ i, it S b i (it S b (ks.length + 1) x) ∈ ks) ∧ ∀ j, 0 < j → j < d → it S b j (it S b (ks.length + 1) x) ≠ it S b (ks.length + 1) x := by
  have hb := h.back hn hx
  obtain ⟨i, j, hij, hj, e⟩ := pigeon (f := fun i => it S b i x) (Nat.le_refl _) hb
  have e : it S b i x = it S b j x := e
  -- the ring's names are in before
  have per : ∀ m, it S b (j - i) (it S b (i + m) x) = it S b (i + m) x := fun m => by
    rw [← it_add]
    have : i + m + (j - i) = j + m := by omega
    rw [this, it_add S b j x m, ← e, ← it_add]
  have all : ∀ m, it S b (i + m) x ∈ ks := by
    intro m
    induction m using Nat.strongRecOn with
    | ind m ih =>
      by_cases hm : i + m ≤ ks.length
      · exact hb _ hm
      · have h1 : j - i ≤ m := by omega
        have := per (m - (j - i))
        rw [← it_add] at this
        rw [show i + (m - (j - i)) + (j - i) = i + m by omega] at this
        rw [this]
        exact ih _ (by omega)
  have hy : it S b (ks.length + 1) x = it S b (i + (ks.length + 1 - i)) x := by rw [show i + (ks.length + 1 - i) = ks.length + 1 by omega]
  obtain ⟨d, ⟨hd, hdp⟩, hmin⟩ := least (P := fun d => 0 < d ∧ it S b d (it S b (ks.length + 1) x) = it S b (ks.length + 1) x) (j - i) ⟨by omega, by rw [hy]; exact per _⟩
  refine ⟨d, hd, hdp, fun m => ?_, fun m hm hmd z => hmin m hmd ⟨hm, z⟩⟩
  rw [hy, ← it_add, Nat.add_assoc]
  exact all _

/-! ### rings -/
section
variable [Inhabited α]
def at_ (S : List (Row α)) (q : Nat) : Row α := S.getD q (default, default, 0)
def lefts (S : List (Row α)) (f : List Nat) : List α := f.map fun q => (at_ S q).1
def rights (S : List (Row α)) (f : List Nat) : List α := f.map fun q => (at_ S q).2.1
def limits (S : List (Row α)) (f : List Nat) : List Int := f.map fun q => (at_ S q).2.2
structure IsRing (S : List (Row α)) (f : List Nat) : Prop where
  two : 2 ≤ f.length
  small : ∀ q ∈ f, q < S.length
  round : rights S f = (lefts S f).drop 1 ++ (lefts S f).take 1
  nd : (lefts S f).Nodup
  neg : (limits S f).sum < 0
omit [DecidableEq α] in
theorem at_of {S : List (Row α)} {q : Nat} {e : Row α} (h : S[q]? = some e) : at_ S q = e := by
  unfold at_
  rw [List.getD_eq_getElem?_getD, h]
  rfl
/-- what the walk round a ring finds -/
theorem BF.isRing {S : List (Row α)} {w : α → Int} {ks : List α} {b : α → Nat} {τ : α → Nat} {n p : Nat} {y : α} {d : Nat} (h : BF S w ks b τ n p) (hne : ∀ e ∈ S, e.1 ≠ e.2.1) (hd : 0 < d) (hp : it S b d y = y) (hin : ∀ i, it S b i y ∈ ks)
    (hmin : ∀ j, 0 < j → j < d → it S b j y ≠ y) : IsRing S ((List.range d).map fun i => b (it S b i y)) := by
  have hat : ∀ i, ∃ c, S[b (it S b i y)]? = some (it S b i y, it S b (i + 1) y, c) ∧ w (it S b (i + 1) y) + c ≤ w (it S b i y) ∧ (τ (it S b (i + 1) y) < τ (it S b i y) ∨ w (it S b (i + 1) y) + c < w (it S b i y)) := fun i => by
    obtain ⟨c, e1, e2, e3, _⟩ := h.nx_of (hin i)
    exact ⟨c, e1, e2, e3⟩
  have hl : lefts S ((List.range d).map fun i => b (it S b i y)) = (List.range d).map fun i => it S b i y := by
    unfold lefts
    rw [List.map_map]
    refine List.map_congr_left fun i _ => ?_
    obtain ⟨c, e, _⟩ := hat i
    show (at_ S (b (it S b i y))).1 = _
    rw [at_of e]
  have hr : rights S ((List.range d).map fun i => b (it S b i y)) = (List.range d).map fun i => it S b (i + 1) y := by
    unfold rights
    rw [List.map_map]
    refine List.map_congr_left fun i _ => ?_
    obtain ⟨c, e, _⟩ := hat i
    show (at_ S (b (it S b i y))).2.1 = _
    rw [at_of e]
  have hd2 : d ≠ 1 := fun z => by
    subst z
    obtain ⟨c, e, _⟩ := hat 0
    have := hne _ (List.mem_of_getElem? e)
    exact this hp.symm
  have inj : ∀ i j, i < j → j < d → it S b i y ≠ it S b j y := fun i j hij hj z => by
    refine hmin (i + (d - j)) (by omega) (by omega) ?_
    rw [it_add, z, ← it_add, show j + (d - j) = d by omega, hp]
  refine ⟨by simp; omega, fun q hq => ?_, ?_, ?_, ?_⟩
  · obtain ⟨i, _, rfl⟩ := List.mem_map.mp hq
    obtain ⟨c, e, _⟩ := hat i
    exact (List.getElem?_eq_some_iff.mp e).1
  · rw [hl, hr]
    apply List.ext_getElem?
    intro i
    by_cases hi : i + 1 < d
    · rw [List.getElem?_append_left (by simp; omega)]
      rw [List.getElem?_map, List.getElem?_drop, List.getElem?_map, List.getElem?_range (by omega), List.getElem?_range (by omega), Nat.add_comm 1 i]
      rfl
    · by_cases hi2 : i + 1 = d
      · rw [List.getElem?_append_right (by simp; omega)]
        simp only [List.getElem?_map, List.length_drop, List.length_map, List.length_range, List.getElem?_take]
        rw [List.getElem?_range (by omega), show i - (d - 1) = 0 by omega]
        rw [List.getElem?_range (by omega)]
        rw [if_pos (by omega)]
        show some (it S b (i + 1) y) = some (it S b 0 y)
        rw [hi2, hp]
        rfl
      · rw [List.getElem?_eq_none (by simp; omega), List.getElem?_eq_none (by simp; omega)]
  · rw [hl, List.nodup_iff_pairwise_ne, List.pairwise_map]
    refine List.Pairwise.imp_of_mem ?_ List.pairwise_lt_range
    intro i j hi hj hij
    exact inj i j hij (List.mem_range.mp hj)
  · -- the sum
    have hs : ∀ m, ((limits S ((List.range m).map fun i => b (it S b i y))).sum ≤ w y - w (it S b m y)) ∧ ((∃ k, k < m ∧ ¬ τ (it S b (k + 1) y) < τ (it S b k y)) → (limits S ((List.range m).map fun i => b (it S b i y))).sum < w y - w (it S b m y)) := by
      intro m
      induction m with
      | zero =>
        refine ⟨?_, fun ⟨k, hk, _⟩ => absurd hk (Nat.not_lt_zero _)⟩
        show (0 : Int) ≤ w y - w y
        omega
      | succ m ih =>
        obtain ⟨c, e1, e2, e3⟩ := hat m
        have el : (limits S ((List.range (m + 1)).map fun i => b (it S b i y))).sum = (limits S ((List.range m).map fun i => b (it S b i y))).sum + c := by
          unfold limits
          rw [List.range_succ, List.map_append, List.map_append, List.sum_append]
          congr 1
          show ((at_ S (b (it S b m y))).2.2 :: []).sum = c
          rw [at_of e1]
          simp
        rw [el]
        refine ⟨by omega, fun ⟨k, hk, hk2⟩ => ?_⟩
        by_cases hkm : k < m
        · have := ih.2 ⟨k, hkm, hk2⟩
          omega
        · have hkm : k = m := by omega
          subst hkm
          have := e3.resolve_left hk2
          omega
    have := (hs d).2 (by
      refine Classical.byContradiction fun hno => ?_
      have dec : ∀ m, m ≤ d → τ (it S b m y) + m ≤ τ y := by
        intro m
        induction m with
        | zero => intro _; exact Nat.le_refl _
        | succ m ih =>
          intro hm
          have h1 := ih (by omega)
          have h2 : τ (it S b (m + 1) y) < τ (it S b m y) := Classical.byContradiction fun z => hno ⟨m, by omega, z⟩
          omega
      have := dec d (Nat.le_refl _)
      rw [hp] at this
      omega)
    rw [hp] at this
    omega
omit [DecidableEq α] in
theorem sum_le {S : List (Row α)} {p : α → Int} (h : Solves S p) : ∀ f : List Nat, (∀ q ∈ f, q < S.length) → ((lefts S f).map p).sum - ((rights S f).map p).sum ≤ (limits S f).sum
  | [], _ => by show (0 : Int) - 0 ≤ 0; omega
  | q :: f, hq => by
    have ih := sum_le h f fun k hk => hq k (List.mem_cons_of_mem _ hk)
    have hlt := hq q List.mem_cons_self
    have e : S[q]? = some S[q] := List.getElem?_eq_getElem hlt
    have := h _ (List.mem_of_getElem? e)
    rw [← at_of e] at this
    simp only [lefts, rights, limits, List.map_cons, List.sum_cons] at ih ⊢
    omega
omit [DecidableEq α] in
/-- a system with a ring of negative sum has no solution -/
theorem IsRing.none {S : List (Row α)} {f : List Nat} (h : IsRing S f) (p : α → Int) : ¬ Solves S p := fun hs => by
  have h1 := sum_le hs f h.small
  have h2 := h.neg
  rw [h.round, List.map_append, List.sum_append] at h1
  have h3 : ((lefts S f).map p).sum = (((lefts S f).take 1).map p).sum + (((lefts S f).drop 1).map p).sum := by
    rw [← List.sum_append, ← List.map_append, List.take_append_drop]
  omega
end
def FARI : Int := 1000000000000000000000000000000
def HALFI : Int := 100000000000000000000000000000
theorem FARI_eq : FARI = 1000000000000000000000000000000 := rfl
theorem HALFI_eq : HALFI = 100000000000000000000000000000 := rfl

abbrev Tab (α : Type) := α → α → Int
def blankR : Tab α := fun u v => if u = v then 0 else FARI
def thru (R : Tab α) (l r : α) (c : Int) : Tab α := fun u v => if HALFI < R u l then R u v else if R u v ≤ R u l + (c + R r v) then R u v else R u l + (c + R r v)
def moreR (R : Tab α) (l r : α) (c : Int) : Option (Tab α) := if R l r ≤ c then some R else if R r l + c < 0 then none else some (thru R l r c)
def addedR : Tab α → List (Row α) → Option (Tab α)
  | R, [] => some R
  | R, e :: S => (moreR R e.1 e.2.1 e.2.2).bind fun R' => addedR R' S
/-- R is the tight table of S over ns; B bounds the finite limits -/
structure Ok (ns : List α) (B : Int) (S : List (Row α)) (R : Tab α) : Prop where
  diag : ∀ u ∈ ns, R u u = 0
  size : ∀ u ∈ ns, ∀ v ∈ ns, (-B ≤ R u v ∧ R u v ≤ B) ∨ FARI - B ≤ R u v
  tri : ∀ u ∈ ns, ∀ w ∈ ns, ∀ v ∈ ns, R u w ≤ HALFI → R w v ≤ HALFI → R u v ≤ R u w + R w v
  sound : ∀ p, Solves S p → ∀ u ∈ ns, ∀ v ∈ ns, R u v ≤ HALFI → p u - p v ≤ R u v
  compl : ∀ e ∈ S, R e.1 e.2.1 ≤ e.2.2
theorem Ok.blank (ns : List α) {B : Int} (h0 : 0 ≤ B) (hB : B ≤ 10 ^ 28) : Ok ns B [] (blankR : Tab α) where
  diag := fun u _ => if_pos rfl
  size := fun u _ v _ => by
    unfold blankR
    split
    · left; omega
    · right; omega
  tri := fun u _ w _ v _ h1 h2 => by
    unfold blankR at h1 h2 ⊢
    simp only [HALFI_eq, FARI_eq] at h1 h2 ⊢
    split at h1
    · rename_i e; subst e
      rw [if_pos rfl]; omega
    · omega
  sound := fun p _ u _ v _ h => by
    unfold blankR at h ⊢
    simp only [HALFI_eq, FARI_eq] at h ⊢
    split at h
    · rename_i e; subst e
      rw [if_pos rfl]; omega
    · omega
  compl := fun e he => by cases he
section
variable {ns : List α} {B : Int} {S : List (Row α)} {R : Tab α}
theorem Ok.fin (h : Ok ns B S R) (hB : B ≤ 10 ^ 28) {u v : α} (hu : u ∈ ns) (hv : v ∈ ns) (hf : R u v ≤ HALFI) : -B ≤ R u v ∧ R u v ≤ B := by
  rcases h.size u hu v hv with z | z
  · exact z
  · simp only [HALFI_eq, FARI_eq] at hf z
    omega
theorem Ok.inf (h : Ok ns B S R) (hB : B ≤ 10 ^ 28) {u v : α} (hu : u ∈ ns) (hv : v ∈ ns) (hf : HALFI < R u v) : FARI - B ≤ R u v := by
  rcases h.size u hu v hv with z | z
  · simp only [HALFI_eq, FARI_eq] at hf z
    omega
  · exact z
theorem Ok.wide (h : Ok ns B S R) {B' : Int} (hb : B ≤ B') : Ok ns B' S R :=
  { h with size := fun u hu v hv => by rcases h.size u hu v hv with z | z <;> omega }
theorem thru_le (l r : α) (c : Int) (u v : α) : thru R l r c u v ≤ R u v := by
  unfold thru
  split
  · exact Int.le_refl _
  · split
    · exact Int.le_refl _
    · omega
theorem thru_le2 {l r : α} {c : Int} {u v : α} (h : R u l ≤ HALFI) : thru R l r c u v ≤ R u l + (c + R r v) := by
  unfold thru
  rw [if_neg (by omega)]
  split
  · assumption
  · exact Int.le_refl _
theorem thru_cases (R : Tab α) (l r : α) (c : Int) (u v : α) : thru R l r c u v = R u v ∨ (R u l ≤ HALFI ∧ R u l + (c + R r v) < R u v ∧ thru R l r c u v = R u l + (c + R r v)) := by
  unfold thru
  split
  · exact .inl rfl
  · split
    · exact .inl rfl
    · exact .inr ⟨by omega, by omega, rfl⟩
theorem Ok.thru (h : Ok ns B S R) {l r : α} {c : Int} (hl : l ∈ ns) (hr : r ∈ ns) (hc : -B ≤ c ∧ c ≤ B) (hB : 3 * B ≤ 10 ^ 28) (hn : 0 ≤ R r l + c) : Ok ns (3 * B) (S ++ [(l, r, c)]) (thru R l r c) := by
  have hB1 : B ≤ 10 ^ 28 := by omega
  -- a finite new limit goes through finite ones
  have fin2 : ∀ u ∈ ns, ∀ v ∈ ns, R u l ≤ HALFI → R u l + (c + R r v) ≤ HALFI → R r v ≤ HALFI := fun u hu v hv h1 h2 => by
    by_cases hf : R r v ≤ HALFI
    · exact hf
    · have z1 := h.fin hB1 hu hl h1
      have z2 := h.inf hB1 hr hv (by omega)
      simp only [HALFI_eq, FARI_eq] at *
      omega
  have old : ∀ u ∈ ns, ∀ v ∈ ns, Df.thru R l r c u v ≤ HALFI → (Df.thru R l r c u v = R u v ∧ R u v ≤ HALFI) ∨ (R u l ≤ HALFI ∧ R r v ≤ HALFI ∧ Df.thru R l r c u v = R u l + (c + R r v)) := fun u hu v hv hf => by
    rcases thru_cases R l r c u v with e | ⟨e1, e2, e3⟩
    · exact .inl ⟨e, by omega⟩
    · exact .inr ⟨e1, fin2 u hu v hv e1 (by omega), e3⟩
  refine ⟨fun u hu => ?_, fun u hu v hv => ?_, fun u hu w hw v hv h1 h2 => ?_, fun p hp u hu v hv hf => ?_, fun e he => ?_⟩
  · rcases thru_cases R l r c u u with e | ⟨e1, e2, e3⟩
    · rw [e]; exact h.diag u hu
    · have hd := h.diag u hu
      have f2 := fin2 u hu u hu e1 (by simp only [HALFI_eq]; omega)
      have := h.tri r hr u hu l hl f2 e1
      omega
  · rcases thru_cases R l r c u v with e | ⟨e1, e2, e3⟩
    · rw [e]
      rcases h.size u hu v hv with z | z
      · left; omega
      · right; omega
    · rw [e3]
      have z1 := h.fin hB1 hu hl e1
      rcases h.size r hr v hv with z | z
      · left; omega
      · right; omega
  · rcases old u hu w hw h1 with ⟨e1, f1⟩ | ⟨a1, b1, e1⟩ <;> rcases old w hw v hv h2 with ⟨e2, f2⟩ | ⟨a2, b2, e2⟩
    · have := h.tri u hu w hw v hv f1 f2
      have := thru_le (R := R) l r c u v
      omega
    · have t := h.tri u hu w hw l hl f1 a2
      have z1 := h.fin hB1 hu hw f1
      have z2 := h.fin hB1 hw hl a2
      have hul : R u l ≤ HALFI := by simp only [HALFI_eq]; omega
      have := thru_le2 (R := R) (l := l) (r := r) (c := c) (u := u) (v := v) hul
      omega
    · have t := h.tri r hr w hw v hv b1 f2
      have := thru_le2 (R := R) (l := l) (r := r) (c := c) (u := u) (v := v) a1
      omega
    · have t := h.tri r hr w hw l hl b1 a2
      have := thru_le2 (R := R) (l := l) (r := r) (c := c) (u := u) (v := v) a1
      omega
  · have hp1 : Solves S p := fun e he => hp e (List.mem_append_left _ he)
    have hp2 : p l - p r ≤ c := hp (l, r, c) (by simp)
    rcases old u hu v hv hf with ⟨e1, f1⟩ | ⟨a1, b1, e1⟩
    · rw [e1]; exact h.sound p hp1 u hu v hv f1
    · have s1 := h.sound p hp1 u hu l hl a1
      have s2 := h.sound p hp1 r hr v hv b1
      omega
  · rcases List.mem_append.mp he with he | he
    · exact Int.le_trans (thru_le _ _ _ _ _) (h.compl e he)
    · rw [List.mem_singleton.mp he]
      show Df.thru R l r c l r ≤ c
      have d1 := h.diag l hl
      have d2 := h.diag r hr
      have := thru_le2 (R := R) (l := l) (r := r) (c := c) (u := l) (v := r) (by rw [d1]; decide)
      omega
theorem Ok.same (h : Ok ns B S R) {l r : α} {c : Int} (he : R l r ≤ c) : Ok ns B (S ++ [(l, r, c)]) R :=
  { h with
    sound := fun p hp => h.sound p fun e he => hp e (List.mem_append_left _ he)
    compl := fun e he' => by
      rcases List.mem_append.mp he' with k | k
      · exact h.compl e k
      · rw [List.mem_singleton.mp k]; exact he }
theorem Ok.more (h : Ok ns B S R) {l r : α} {c : Int} (hl : l ∈ ns) (hr : r ∈ ns) (hc : -B ≤ c ∧ c ≤ B) (hB : 3 * B ≤ 10 ^ 28) {R' : Tab α} (e : moreR R l r c = some R') : Ok ns (3 * B) (S ++ [(l, r, c)]) R' := by
  unfold moreR at e
  split at e
  · cases e
    rename_i he
    exact (h.same he).wide (by omega)
  · split at e
    · cases e
    · cases e
      exact h.thru hl hr hc hB (by omega)
theorem Ok.more_none (h : Ok ns B S R) {l r : α} {c : Int} (hl : l ∈ ns) (hr : r ∈ ns) (hc : -B ≤ c ∧ c ≤ B) (hB : 3 * B ≤ 10 ^ 28) (e : moreR R l r c = none) (p : α → Int) : ¬ Solves (S ++ [(l, r, c)]) p := fun hp => by
  unfold moreR at e
  split at e
  · cases e
  · split at e
    · rename_i h1 h2
      have hp1 : Solves S p := fun e he => hp e (List.mem_append_left _ he)
      have hp2 : p l - p r ≤ c := hp (l, r, c) (by simp)
      have := h.sound p hp1 r hr l hl (by simp only [HALFI_eq]; omega)
      omega
    · cases e
/-- all differences added, one behind another -/
theorem Ok.added : ∀ (T : List (Row α)) {S : List (Row α)} {R : Tab α} {B : Int}, Ok ns B S R → (∀ e ∈ T, e.1 ∈ ns ∧ e.2.1 ∈ ns ∧ -B ≤ e.2.2 ∧ e.2.2 ≤ B) → 0 ≤ B → 3 ^ T.length * B ≤ 10 ^ 28 →
    (∀ R', addedR R T = some R' → Ok ns (3 ^ T.length * B) (S ++ T) R') ∧ (addedR R T = none → ∀ p, ¬ Solves (S ++ T) p)
  | [], S, R, B, h, _, _, _ => by
    refine ⟨fun R' e => ?_, fun e => by cases e⟩
    cases e
    simpa using h
  | e :: T, S, R, B, h, hT, h0, hB => by
    obtain ⟨h1, h2, h3, h4⟩ := hT e List.mem_cons_self
    have e3 : (3 : Int) ^ (e :: T).length * B = 3 ^ T.length * (3 * B) := by
      rw [List.length_cons, Int.pow_succ, Int.mul_assoc]
    have e1 : (1 : Int) ≤ 3 ^ T.length := by have := Int.pow_pos (n := 3) (m := T.length) (by decide); omega
    have hB3 : 3 * B ≤ 10 ^ 28 := by
      rw [e3] at hB
      have := Int.mul_le_mul_of_nonneg_right e1 (show 0 ≤ 3 * B by omega)
      omega
    have hB3' : 3 ^ T.length * (3 * B) ≤ 10 ^ 28 := by rw [← e3]; exact hB
    have hS : S ++ e :: T = (S ++ [(e.1, e.2.1, e.2.2)]) ++ T := by simp
    cases hm : moreR R e.1 e.2.1 e.2.2 with
    | none =>
      refine ⟨fun R' k => ?_, fun _ p hp => ?_⟩
      · unfold addedR at k
        rw [hm] at k
        cases k
      · refine h.more_none h1 h2 ⟨h3, h4⟩ hB3 hm p fun d hd => hp d ?_
        rw [hS]
        exact List.mem_append_left _ hd
    | some R1 =>
      have ok1 := h.more h1 h2 ⟨h3, h4⟩ hB3 hm
      obtain ⟨k1, k2⟩ := Ok.added T ok1 (fun d hd => by
        obtain ⟨a, b, c, d'⟩ := hT d (List.mem_cons_of_mem _ hd)
        exact ⟨a, b, by omega, by omega⟩) (by omega) hB3'
      rw [hS, e3]
      have ea : addedR R (e :: T) = addedR R1 T := by
        show (moreR R e.1 e.2.1 e.2.2).bind _ = _
        rw [hm]
        rfl
      rw [ea]
      exact ⟨k1, k2⟩
end

/-! ### a point -/
def valOf (R : Tab α) (z k : α) : Int := if R z k ≤ HALFI then 0 - R z k else if R k z ≤ HALFI then R k z else 0
theorem valOf_le {ns : List α} {B : Int} {S : List (Row α)} {R : Tab α} (h : Ok ns B S R) (h0 : 0 ≤ B) (hB : B ≤ 10 ^ 28) {z k : α} (hz : z ∈ ns) (hk : k ∈ ns) : -B ≤ valOf R z k ∧ valOf R z k ≤ B := by
  unfold valOf
  split
  · have := h.fin hB hz hk (by assumption)
    omega
  · split
    · exact h.fin hB hk hz (by assumption)
    · omega
/-- a name is set to its value: never None -/
theorem Ok.setTo {ns : List α} {B : Int} {S : List (Row α)} {R : Tab α} (h : Ok ns B S R) (h0 : 0 ≤ B) (hB : 9 * B ≤ 10 ^ 28) {z k : α} (hz : z ∈ ns) (hk : k ∈ ns) :
    ∃ R1 R2, moreR R k z (valOf R z k) = some R1 ∧ moreR R1 z k (0 - valOf R z k) = some R2 ∧ Ok ns (9 * B) ((S ++ [(k, z, valOf R z k)]) ++ [(z, k, 0 - valOf R z k)]) R2 := by
  have hB1 : B ≤ 10 ^ 28 := by omega
  have hv := valOf_le h h0 hB1 hz hk
  have e1 : ∃ R1, moreR R k z (valOf R z k) = some R1 ∧ (R1 z k ≤ 0 - valOf R z k ∨ 0 ≤ R1 k z - valOf R z k) := by
    unfold moreR
    by_cases c1 : R k z ≤ valOf R z k
    · rw [if_pos c1]
      refine ⟨R, rfl, ?_⟩
      unfold valOf at c1 ⊢
      split
      · left; omega
      · rename_i g1
        rw [if_neg g1] at c1
        split
        · right; omega
        · rename_i g2
          rw [if_neg g2] at c1
          simp only [HALFI_eq] at g1 g2
          omega
    · rw [if_neg c1]
      have c2 : ¬ R z k + valOf R z k < 0 := by
        unfold valOf
        split
        · omega
        · rename_i g1
          split
          · rename_i g2
            exfalso
            apply c1
            unfold valOf
            rw [if_neg g1, if_pos g2]
            exact Int.le_refl _
          · simp only [HALFI_eq] at g1
            omega
      rw [if_neg c2]
      refine ⟨_, rfl, ?_⟩
      by_cases g1 : R z k ≤ HALFI
      · left
        have := thru_le (R := R) k z (valOf R z k) z k
        have ev : valOf R z k = 0 - R z k := by unfold valOf; rw [if_pos g1]
        omega
      · right
        have d1 := h.diag k hk
        have d2 := h.diag z hz
        unfold Df.thru
        rw [d1, d2, if_neg (by decide)]
        split
        · rename_i g2
          omega
        · omega
  obtain ⟨R1, m1, c⟩ := e1
  have ok1 := h.more hk hz hv (by omega) m1
  have e2 : ∃ R2, moreR R1 z k (0 - valOf R z k) = some R2 := by
    unfold moreR
    by_cases c1 : R1 z k ≤ 0 - valOf R z k
    · rw [if_pos c1]; exact ⟨_, rfl⟩
    · rw [if_neg c1, if_neg (by omega)]; exact ⟨_, rfl⟩
  obtain ⟨R2, m2⟩ := e2
  have ok2 := ok1.more hz hk (by omega) (by omega) m2
  refine ⟨R1, R2, m1, m2, ?_⟩
  rw [show 9 * B = 3 * (3 * B) by omega]
  exact ok2
/-- the values of all names but z, as the table holds them at the end, solve the system -/
theorem Ok.solves {ns : List α} {B : Int} {S T : List (Row α)} {R : Tab α} {x : α → Int} {z : α} (h : Ok ns B (S ++ T) R) (hB : B ≤ 10 ^ 28) (hz : z ∈ ns) (hS : ∀ e ∈ S, e.1 ∈ ns ∧ e.2.1 ∈ ns ∧ e.2.2 ≤ 10 ^ 28)
    (hx : ∀ k ∈ ns, k ≠ z → (k, z, x k) ∈ T ∧ (z, k, 0 - x k) ∈ T ∧ -B ≤ x k ∧ x k ≤ B) : Solves S fun a => if a = z then 0 else x a := by
  have key : ∀ k ∈ ns, k ≠ z → R k z = x k ∧ R z k = 0 - x k := fun k hk hkz => by
    obtain ⟨t1, t2, b1, b2⟩ := hx k hk hkz
    have c1 : R k z ≤ x k := h.compl _ (List.mem_append_right _ t1)
    have c2 : R z k ≤ 0 - x k := h.compl _ (List.mem_append_right _ t2)
    have f1 : R k z ≤ HALFI := by simp only [HALFI_eq]; omega
    have f2 : R z k ≤ HALFI := by simp only [HALFI_eq]; omega
    have t := h.tri k hk z hz k hk f1 f2
    rw [h.diag k hk] at t
    omega
  intro e he
  obtain ⟨l, r, c⟩ := e
  obtain ⟨hl, hr, hc⟩ := hS _ he
  have hl : l ∈ ns := hl
  have hr : r ∈ ns := hr
  have hc : c ≤ 10 ^ 28 := hc
  have hlr : R l r ≤ c := h.compl _ (List.mem_append_left _ he)
  have flr : R l r ≤ HALFI := by simp only [HALFI_eq]; omega
  show (if l = z then 0 else x l) - (if r = z then 0 else x r) ≤ c
  by_cases el : l = z
  · rw [if_pos el]
    by_cases er : r = z
    · rw [if_pos er]
      rw [el, er, h.diag z hz] at hlr
      omega
    · rw [if_neg er]
      have := (key r hr er).2
      rw [el] at hlr
      omega
  · rw [if_neg el]
    obtain ⟨_, _, b1, b2⟩ := hx l hl el
    by_cases er : r = z
    · rw [if_pos er]
      have := (key l hl el).1
      rw [er] at hlr
      omega
    · rw [if_neg er]
      obtain ⟨_, _, b3, b4⟩ := hx r hr er
      have k1 := (key l hl el).1
      have k2 := (key r hr er).1
      have t := h.tri l hl r hr z hz flr (by simp only [HALFI_eq]; omega)
      omega

/-! ### one after another -/
theorem addedR_append (A B : List (Row α)) : ∀ R : Tab α, addedR R (A ++ B) = (addedR R A).bind fun R' => addedR R' B := by
  induction A with
  | nil => intro R; rfl
  | cons e A ih =>
    intro R
    show (moreR R e.1 e.2.1 e.2.2).bind _ = ((moreR R e.1 e.2.1 e.2.2).bind _).bind _
    cases moreR R e.1 e.2.1 e.2.2 with
    | none => rfl
    | some R1 => exact ih R1
theorem addedR_one (R : Tab α) (e : Row α) : addedR R [e] = moreR R e.1 e.2.1 e.2.2 := by
  show (moreR R e.1 e.2.1 e.2.2).bind _ = _
  cases moreR R e.1 e.2.1 e.2.2 <;> rfl
def setR (R : Tab α) (z k : α) (x : Int) : Option (Tab α) := (moreR R k z x).bind fun R1 => moreR R1 z k (0 - x)
def pts (z : α) : Tab α → (α → Int) → List α → Option (Tab α × (α → Int))
  | R, x, [] => some (R, x)
  | R, x, k :: ks => (setR R z k (valOf R z k)).bind fun R' => pts z R' (put x k (valOf R z k)) ks
theorem pts_append (z : α) (A B : List α) : ∀ (R : Tab α) (x : α → Int), pts z R x (A ++ B) = (pts z R x A).bind fun p => pts z p.1 p.2 B := by
  induction A with
  | nil => intro R x; rfl
  | cons k A ih =>
    intro R x
    show (setR R z k (valOf R z k)).bind _ = ((setR R z k (valOf R z k)).bind _).bind _
    cases setR R z k (valOf R z k) with
    | none => rfl
    | some R1 => exact ih R1 _
theorem Ok.pts {ns : List α} {z : α} (hz : z ∈ ns) : ∀ (ks : List α) {S : List (Row α)} {R : Tab α} {B : Int} (x : α → Int), Ok ns B S R → ks.Nodup → (∀ k ∈ ks, k ∈ ns) → 0 ≤ B → 9 ^ ks.length * B ≤ 10 ^ 28 →
    ∃ R' x' T, Df.pts z R x ks = some (R', x') ∧ Ok ns (9 ^ ks.length * B) (S ++ T) R' ∧ (∀ k, k ∉ ks → x' k = x k) ∧ ∀ k ∈ ks, (k, z, x' k) ∈ T ∧ (z, k, 0 - x' k) ∈ T ∧ -(9 ^ ks.length * B) ≤ x' k ∧ x' k ≤ 9 ^ ks.length * B
  | [], S, R, B, x, h, _, _, _, _ => ⟨R, x, [], rfl, by simpa using h, fun _ _ => rfl, fun k hk => by cases hk⟩
  | k :: ks, S, R, B, x, h, hnd, hin, h0, hB => by
    have e9 : (9 : Int) ^ (k :: ks).length * B = 9 ^ ks.length * (9 * B) := by rw [List.length_cons, Int.pow_succ, Int.mul_assoc]
    have e1 : (1 : Int) ≤ 9 ^ ks.length := by have := Int.pow_pos (n := 9) (m := ks.length) (by decide); omega
    rw [e9] at hB ⊢
    have hB9 : 9 * B ≤ 9 ^ ks.length * (9 * B) := by
      have := Int.mul_le_mul_of_nonneg_right e1 (show 0 ≤ 9 * B by omega)
      omega
    have hk := hin k List.mem_cons_self
    obtain ⟨R1, R2, m1, m2, ok2⟩ := h.setTo h0 (by omega) hz hk
    have hv := valOf_le h h0 (by omega) hz hk
    have hnd' := List.nodup_cons.mp hnd
    obtain ⟨R', x', T, p1, p2, p3, p4⟩ := Ok.pts hz ks (put x k (valOf R z k)) ok2 hnd'.2 (fun j hj => hin j (List.mem_cons_of_mem _ hj)) (by omega) hB
    have hxk : x' k = valOf R z k := by rw [p3 k hnd'.1, put_same]
    refine ⟨R', x', (k, z, valOf R z k) :: (z, k, 0 - valOf R z k) :: T, ?_, ?_, fun j hj => ?_, fun j hj => ?_⟩
    · show (setR R z k (valOf R z k)).bind _ = _
      unfold setR
      rw [m1]
      show (moreR R1 z k (0 - valOf R z k)).bind _ = _
      rw [m2]
      exact p1
    · have : S ++ (k, z, valOf R z k) :: (z, k, 0 - valOf R z k) :: T = S ++ [(k, z, valOf R z k)] ++ [(z, k, 0 - valOf R z k)] ++ T := by simp
      rw [this]
      exact p2
    · rw [p3 j fun z => hj (List.mem_cons_of_mem _ z), put_ne fun (e : j = k) => hj (by rw [e]; exact List.mem_cons_self)]
    · rcases List.mem_cons.mp hj with rfl | hj
      · rw [hxk]
        exact ⟨List.mem_cons_self, List.mem_cons_of_mem _ List.mem_cons_self, by omega, by omega⟩
      · obtain ⟨q1, q2, q3, q4⟩ := p4 j hj
        exact ⟨List.mem_cons_of_mem _ (List.mem_cons_of_mem _ q1), List.mem_cons_of_mem _ (List.mem_cons_of_mem _ q2), q3, q4⟩
/-- a system whose table comes out has a solution, the point of the table -/
theorem Ok.point {ns : List α} {z : α} {ks : List α} {S : List (Row α)} {R : Tab α} {B : Int} (x : α → Int) (h : Ok ns B S R) (hns : ns = z :: ks) (hnd : ns.Nodup) (h0 : 0 ≤ B) (hB : 9 ^ ks.length * B ≤ 10 ^ 28) (hS : ∀ e ∈ S, e.1 ∈ ns ∧ e.2.1 ∈ ns ∧ e.2.2 ≤ 10 ^ 28) :
    ∃ R' x', Df.pts z R x ks = some (R', x') ∧ Solves S fun a => if a = z then 0 else x' a := by
  subst hns
  have hnd' := List.nodup_cons.mp hnd
  obtain ⟨R', x', T, p1, p2, _, p4⟩ := Ok.pts (ns := z :: ks) List.mem_cons_self ks x h hnd'.2 (fun k hk => List.mem_cons_of_mem _ hk) h0 hB
  refine ⟨R', x', p1, p2.solves hB List.mem_cons_self hS fun k hk hkz => ?_⟩
  rcases List.mem_cons.mp hk with rfl | hk
  · exact absurd rfl hkz
  · exact p4 k hk
end Df

/-! ### heaps, walks, texts: what does not hang on a program -/
namespace Ls
open PySem PySem.Spec PyProof.Rows L2
theorem same_upd {H : Hp} {p : Addr} {o : HO} (h : H p = none) : Same H (upd H p o) := fun b x e => by rw [upd_ne (ne_of_none e h)]; exact e
theorem same_mut {H H' : Hp} {p : Addr} {o : HO} (s : Same H H') (h : H p = none) : Same H (upd H' p o) := fun b x e => by rw [upd_ne (ne_of_none e h)]; exact s b x e
theorem sq {K : PySem.W.Frag} {H : Hp} {a : Addr} {xs : List V} (h : H a = some (.lst xs)) : SqL K H a xs := .inl (.inl h)
theorem sqt {K : PySem.W.Frag} {H : Hp} {a : Addr} {xs : List V} (h : H a = some (.tup xs)) : SqT K H a xs := .inl (.inl h)
theorem szl {n : Nat} (h : n ≤ 1000000) : n ≤ sizeLine := Nat.le_trans h (by decide)
theorem szlt {n : Nat} (h : n < 1000000) : n < sizeLine := Nat.lt_of_lt_of_le h (by decide)
theorem fresh_ne {H : Hp} {p q : Addr} {o : HO} (h : H p = some o) (n : H q = none) : p ≠ q := ne_of_none h n
section
variable {K : PySem.W.Frag} {a : Addr} {xs : List V}
theorem walk_enumT : Walk (IteT K a) xs.length (fun H => SqT K H a xs) (YPair (fun i => some (.int (i : Nat))) (fun i => xs[i]?)) :=
  ⟨fun i _ hi q => ⟨xs, xs[i], q, List.getElem?_eq_getElem hi⟩, fun _ q => ⟨xs, q, Nat.le_refl _⟩, fun i H v H' _ q y => have ⟨T, x, h1, h2, h3, h4⟩ := y; ⟨T, .int (i : Nat), x, h1, h2, h3, rfl, h4 xs q⟩⟩
end
section
variable {J : It} {n : Nat} {G : Hp → Prop} {Y : Nat → Hp → V → Hp → Prop}
/-- a dict comprehension over a walk -/
theorem dc_it (w : Walk J n G Y) {g : TG} {tt : TT} {tk tv : TE} {vs : List Nat} {σ : L2.St} {H1 : Hp} {D : Addr} {Qd : Hp → Prop} (Pv : Nat → Hp → Prop) (h0 : Pv 0 (upd H1 D (.dK []))) (hG : ∀ i H, i ≤ n → Pv i H → G H)
    (hs : ∀ i x H H', i < n → Pv i H → Y i H x H' → g x (wipe σ vs) H' fun σ2 H2 => wipe σ2 vs = wipe σ vs ∧ tt σ2 H2 fun b H3 =>
      if b = true then tk σ2 H3 fun y H4 => tv σ2 H4 fun z H5 => ∃ kvs k, y = kV k ∧ H5 D = some (.dK kvs) ∧ kvs.length < sizeLine ∧ Pv (i + 1) (upd H5 D (.dK (putK kvs k z))) else Pv (i + 1) H3) (hd : ∀ H, Pv n H → Qd H) :
    ∃ W : Nat → Nat → Hp → Prop, (∃ m, W 0 m (upd H1 D (.dK []))) ∧ ∀ i m H, W i m H →
      (J.stop i H ∧ Qd H) ∨ (J.go i H ∧ ∃ Nx : Hp → Prop, (∀ H', Nx H' → ∃ m', m' < m ∧ W (i + 1) m' H') ∧ ∀ x H', J.yld i H x H' → g x (wipe σ vs) H' fun σ2 H2 => wipe σ2 vs = wipe σ vs ∧ tt σ2 H2 fun b H3 =>
        if b = true then tk σ2 H3 fun y H4 => tv σ2 H4 fun z H5 => ∃ kvs k, y = kV k ∧ H5 D = some (.dK kvs) ∧ kvs.length < sizeLine ∧ Nx (upd H5 D (.dK (putK kvs k z))) else Nx H3) :=
  ⟨fun i m H => m = n - i ∧ i ≤ n ∧ Pv i H, ⟨n, (Nat.sub_zero n).symm, Nat.zero_le _, h0⟩, fun i m H ⟨e, hi, p⟩ => by
    have q := hG i H hi p
    rcases Nat.lt_or_ge i n with hlt | hge
    · exact .inr ⟨w.goes i H hlt q, Pv (i + 1), fun H' p' => ⟨n - (i + 1), by omega, rfl, hlt, p'⟩, fun x H' y => hs i x H H' hlt p (w.yields i H x H' hlt q y)⟩
    · have e : i = n := Nat.le_antisymm hi hge
      subst e
      exact .inl ⟨w.stops H q, hd H p⟩⟩
end
/-! rows paired -/
theorem pget {α β : Type} {F : α → β → Prop} : ∀ {xs : List α} {ys : List β} {i : Nat} {y : β}, Paired F xs ys → ys[i]? = some y → ∃ x, xs[i]? = some x ∧ F x y
  | _, _, _, _, .nil, e => by simp at e
  | _, _, 0, _, .cons r _, e => by
    have e : _ = _ := Option.some.inj e
    exact ⟨_, rfl, e ▸ r⟩
  | _, _, i + 1, y, .cons _ t, e => pget (i := i) t e
theorem pmono {α β : Type} {F F' : α → β → Prop} (h : ∀ x y, F x y → F' x y) : ∀ {xs : List α} {ys : List β}, Paired F xs ys → Paired F' xs ys
  | _, _, .nil => .nil
  | _, _, .cons r t => .cons (h _ _ r) (pmono h t)
theorem plen {α β : Type} {F : α → β → Prop} : ∀ {xs : List α} {ys : List β}, Paired F xs ys → xs.length = ys.length
  | _, _, .nil => rfl
  | _, _, .cons _ t => congrArg Nat.succ (plen t)
theorem pmap {α β γ : Type} {F : α → β → Prop} (g : γ → β) : ∀ {xs : List α} {zs : List γ}, Paired F xs (zs.map g) → Paired (fun x z => F x (g z)) xs zs
  | _, [], .nil => .nil
  | _, _ :: _, .cons r t => .cons r (pmap g t)
/-! dicts of names -/
/-- the dict with the keys ks, in order, n standing for v n -/
def tabV (ks : List Str) (v : Str → V) : List (Key × V) := ks.map fun n => (Sum.inr n, v n)
theorem tabV_len (ks : List Str) (v : Str → V) : (tabV ks v).length = ks.length := List.length_map _
theorem tabV_keys (ks : List Str) (v : Str → V) : (tabV ks v).map (fun kv => kV kv.1) = ks.map V.str := by
  unfold tabV; rw [List.map_map]; rfl
theorem valV_tab : ∀ (ks : List Str) (v : Str → V) (n : Str), valV (tabV ks v) (Sum.inr n : Key) = if n ∈ ks then some (v n) else none
  | [], v, n => by simp [tabV, valV]
  | k :: ks, v, n => by
    show valV ((Sum.inr k, v k) :: tabV ks v) (Sum.inr n : Key) = _
    by_cases h : k = n
    · subst h
      rw [valV_pos (p := ((Sum.inr k : Key), v k)) rfl, if_pos List.mem_cons_self]
    · rw [valV_neg (p := ((Sum.inr k : Key), v k)) (fun e => h (Sum.inr.inj e)), valV_tab ks v n]
      simp [Ne.symm h]
theorem valV_tab_in {ks : List Str} {v : Str → V} {n : Str} (h : n ∈ ks) : valV (tabV ks v) (Sum.inr n : Key) = some (v n) := by rw [valV_tab, if_pos h]
theorem valV_tab_no {ks : List Str} {v : Str → V} {n : Str} (h : n ∉ ks) : valV (tabV ks v) (Sum.inr n : Key) = none := by rw [valV_tab, if_neg h]
theorem tabV_congr {ks : List Str} {v v' : Str → V} (h : ∀ n ∈ ks, v n = v' n) : tabV ks v = tabV ks v' := List.map_congr_left fun n hn => by rw [h n hn]
theorem putK_tab (ks : List Str) (v : Str → V) (n : Str) (x : V) : putK (tabV ks v) (Sum.inr n : Key) x = tabV (Df.ins ks n) (Df.put v n x) := by
  unfold Df.ins
  by_cases h : n ∈ ks
  · rw [if_pos h]
    have hany : ((tabV ks v).any fun kv => decide (kv.1 = (Sum.inr n : Key))) = true := by rw [valV_any, valV_tab_in h]; rfl
    unfold putK
    rw [if_pos hany]
    unfold tabV
    rw [List.map_map]
    refine List.map_congr_left fun m _ => ?_
    by_cases e : m = n
    · subst e
      simp [Df.put]
    · have e2 : ¬ ((Sum.inr m : Key) = Sum.inr n) := fun z => e (Sum.inr.inj z)
      simp [Df.put, e]
  · rw [if_neg h, putK_new x (valV_tab_no h)]
    have e : tabV (ks ++ [n]) (Df.put v n x) = tabV ks (Df.put v n x) ++ [(Sum.inr n, x)] := by
      unfold tabV
      rw [List.map_append]
      simp [Df.put]
    rw [e]
    congr 1
    exact tabV_congr fun m hm => by rw [Df.put_ne]; exact fun z => h (z ▸ hm)
theorem ins_len (ks : List Str) (n : Str) : (Df.ins ks n).length ≤ ks.length + 1 := by
  unfold Df.ins
  split <;> simp
end Ls

/-! ### texts in order; data of lists -/
namespace Ls
open PySem PySem.Spec PyProof.Rows L2
def leS (a b : Str) : Prop := ¬ b.cps.toList < a.cps.toList
theorem leS_trans {a b c : Str} (h : leS a b) (k : leS b c) : leS a c := fun z => by
  have h1 : a.cps.toList ≤ b.cps.toList := List.not_lt.mp h
  have h2 : b.cps.toList ≤ c.cps.toList := List.not_lt.mp k
  exact List.not_lt.mpr (List.le_trans h1 h2) z
theorem leS_anti {a b : Str} (h : leS a b) (k : leS b a) : a = b := by
  have h1 : a.cps.toList ≤ b.cps.toList := List.not_lt.mp h
  have h2 : b.cps.toList ≤ a.cps.toList := List.not_lt.mp k
  have e : a.cps.toList = b.cps.toList := List.le_antisymm h1 h2
  have e2 : a.cps = b.cps := Array.toList_inj.mp e
  cases a; cases b
  exact congrArg Str.mk e2
theorem rising_pw : ∀ (r : List Str) (p : Str), risingS p r = true → (p :: r).Pairwise leS
  | [], p, _ => by simp
  | x :: r, p, h => by
    have h : (!ltCps x.cps.toList p.cps.toList && risingS x r) = true := h
    rw [Bool.and_eq_true] at h
    have h1 : leS p x := fun z => by
      have := h.1
      rw [ltCps_eq, decide_eq_true z] at this
      cases this
    have ih := rising_pw r x h.2
    refine List.pairwise_cons.mpr ⟨fun y hy => ?_, ih⟩
    rcases List.mem_cons.mp hy with rfl | hy
    · exact h1
    · exact leS_trans h1 ((List.pairwise_cons.mp ih).1 y hy)
theorem sorted_pw : ∀ (l : List Str), sortedS l = true → l.Pairwise leS
  | [], _ => List.Pairwise.nil
  | x :: r, h => rising_pw r x h
theorem pw_uniq : ∀ (l m : List Str), l.Perm m → l.Pairwise leS → m.Pairwise leS → l = m
  | [], m, p, _, _ => (List.nil_perm.mp p).symm
  | a :: l, [], p, _, _ => absurd p.length_eq (by simp)
  | a :: l, b :: m, p, h, k => by
    have h1 := List.pairwise_cons.mp h
    have k1 := List.pairwise_cons.mp k
    have e : a = b := by
      rcases List.mem_cons.mp (p.mem_iff.mp List.mem_cons_self) with e | hb
      · exact e
      · rcases List.mem_cons.mp (p.mem_iff.mpr List.mem_cons_self) with e | ha
        · exact e.symm
        · exact leS_anti (h1.1 b ha) (k1.1 a hb)
    subst e
    rw [pw_uniq l m (List.perm_cons a |>.mp p) h1.2 k1.2]
theorem sorted_uniq {l m n : List Str} (p : l.Perm n) (q : m.Perm n) (h : sortedS l = true) (k : sortedS m = true) : l = m := pw_uniq l m (p.trans q.symm) (sorted_pw l h) (sorted_pw m k)
/-! texts in lists -/
theorem eqV_str (a b : Str) : eqV (.str a) (.str b) = decide (a = b) := by
  unfold eqV
  rw [Bool.eq_iff_iff]
  simp
theorem inV_str (n : Str) : ∀ ns : List Str, inV (.str n) (ns.map V.str) = decide (n ∈ ns)
  | [] => by simp [inV]
  | a :: ns => by
    have ih := inV_str n ns
    unfold inV at ih ⊢
    rw [List.map_cons, List.any_cons, ih, eqV_str, Bool.eq_iff_iff]
    simp only [Bool.or_eq_true, decide_eq_true_eq, List.mem_cons]
    exact or_congr eq_comm Iff.rfl
theorem flat_str (ns : List Str) : (ns.map V.str).all flatV = true := by
  induction ns with
  | nil => rfl
  | cons a ns ih => rw [List.map_cons, List.all_cons, ih]; rfl
/-! data -/
theorem canAll {α : Type} (f : α → PyData) (h : ∀ x, PyData.canLay0 (f x) = true) : ∀ l : List α, PyData.canLayAll0 (l.map f) = true
  | [] => rfl
  | x :: l => by
    rw [List.map_cons, PyData.canLayAll0, h x, canAll f h l]
    rfl
theorem canAllm {α : Type} (f : α → PyData) : ∀ l : List α, (∀ x ∈ l, PyData.canLay0 (f x) = true) → PyData.canLayAll0 (l.map f) = true
  | [], _ => rfl
  | x :: l, h => by
    rw [List.map_cons, PyData.canLayAll0, h x List.mem_cons_self, canAllm f l fun y hy => h y (List.mem_cons_of_mem _ hy)]
    rfl
theorem depAll {α : Type} (f : α → PyData) (n : Nat) (h : ∀ x, PyData.depth (f x) ≤ n) : ∀ l : List α, PyData.depthAll (l.map f) ≤ n
  | [] => by simp [PyData.depthAll]
  | x :: l => by
    have h1 := h x
    have h2 := depAll f n h l
    simp only [List.map_cons, PyData.depthAll]
    omega
theorem shaped_list {α : Type} (f : α → PyData) (n : Nat) (hn : n < 60) (hd : ∀ x, PyData.depth (f x) ≤ n) (l : List α) (h : ∀ x ∈ l, PyData.canLay0 (f x) = true) : SeqAt.shaped (.list (l.map f)) = true := by
  have h1 := depAll f n hd l
  have h2 : PyData.depth (.list (l.map f)) ≤ 64 := by simp only [PyData.depth]; omega
  unfold SeqAt.shaped
  rw [Bool.and_eq_true]
  exact ⟨by simp only [PyData.canLay0]; exact canAllm f l h, decide_eq_true h2⟩
theorem eqv_list {α : Type} (f : α → PyData) (l : List α) (h : ∀ x ∈ l, PyData.canLay0 (f x) = true) : PyData.eqv (.list (l.map f)) (.list (l.map f)) = true := PySem.SeqAt.eqv_refl _ (by simp only [PyData.canLay0]; exact canAllm f l h)
theorem shaped_strs (l : List Str) (h : ∀ x ∈ l, PySem.PyData.strOk x = true) : SeqAt.shaped (.list (l.map PyData.str)) = true := shaped_list PyData.str 1 (by decide) (fun x => by simp [PyData.depth]) l fun x hx => by simp only [PyData.canLay0]; exact h x hx
theorem eqv_strs (l : List Str) (h : ∀ x ∈ l, PySem.PyData.strOk x = true) : PyData.eqv (.list (l.map PyData.str)) (.list (l.map PyData.str)) = true := eqv_list PyData.str l fun x hx => by simp only [PyData.canLay0]; exact h x hx
theorem dpStrs (K : PySem.W.Frag) (H : Hp) : ∀ ns : List Str, DpAll K H (ns.map V.str) (ns.map PyData.str)
  | [] => .nil
  | n :: ns => .cons (.str n) (dpStrs K H ns)
end Ls

/-! ### values that are data: whatever they are made of -/
namespace Ls
open PySem PySem.Spec PyProof.Rows L2
mutual
/-- the value is the data; its objects satisfy N -/
inductive Dt (N : Addr → Prop) (H : Hp) : V → PyData → Prop
  | non : Dt N H .non .none
  | bl (b : Bool) : Dt N H (.bl b) (.bool b)
  | int (i : Int) : Dt N H (.int i) (.int i)
  | str {x : Str} (h : x.length ≤ 1000 ∧ PySem.PyData.strOk x = true) : Dt N H (.str x) (.str x)
  | lst {a : Addr} {xs : List V} {ds : List PyData} (n : N a ∧ ds.length ≤ 1000) (e : H a = some (.lst xs)) (h : DtAll N H xs ds) : Dt N H (.ref a) (.list ds)
  | tup {a : Addr} {xs : List V} {ds : List PyData} (n : N a ∧ ds.length ≤ 1000) (e : H a = some (.tup xs)) (h : DtAll N H xs ds) : Dt N H (.ref a) (.tuple ds)
inductive DtAll (N : Addr → Prop) (H : Hp) : List V → List PyData → Prop
  | nil : DtAll N H [] []
  | cons {v : V} {vs : List V} {d : PyData} {ds : List PyData} : Dt N H v d → DtAll N H vs ds → DtAll N H (v :: vs) (d :: ds)
end
section
variable {N M : Addr → Prop} {H H' : Hp}
mutual
theorem Dt.to (hn : ∀ a, N a → M a) (s : ∀ b o, N b → H b = some o → H' b = some o) : ∀ {v : V} {d : PyData}, Dt N H v d → Dt M H' v d
  | _, _, .non => .non
  | _, _, .bl b => .bl b
  | _, _, .int i => .int i
  | _, _, .str h => .str h
  | _, _, .lst n e h => .lst ⟨hn _ n.1, n.2⟩ (s _ _ n.1 e) (DtAll.to hn s h)
  | _, _, .tup n e h => .tup ⟨hn _ n.1, n.2⟩ (s _ _ n.1 e) (DtAll.to hn s h)
theorem DtAll.to (hn : ∀ a, N a → M a) (s : ∀ b o, N b → H b = some o → H' b = some o) : ∀ {vs : List V} {ds : List PyData}, DtAll N H vs ds → DtAll M H' vs ds
  | _, _, .nil => .nil
  | _, _, .cons h t => .cons (Dt.to hn s h) (DtAll.to hn s t)
end
theorem Dt.mono (s : Same H H') {v : V} {d : PyData} (h : Dt N H v d) : Dt N H' v d := h.to (fun _ n => n) fun b o _ e => s b o e
theorem DtAll.mono (s : Same H H') {vs : List V} {ds : List PyData} (h : DtAll N H vs ds) : DtAll N H' vs ds := h.to (fun _ n => n) fun b o _ e => s b o e
theorem DtAll.len : ∀ {vs : List V} {ds : List PyData}, DtAll N H vs ds → vs.length = ds.length
  | _, _, .nil => rfl
  | _, _, .cons _ t => congrArg Nat.succ (DtAll.len t)
theorem DtAll.get : ∀ {vs : List V} {ds : List PyData} {i : Nat} {d : PyData}, DtAll N H vs ds → ds[i]? = some d → ∃ v, vs[i]? = some v ∧ Dt N H v d
  | _, _, 0, _, .cons h _, e => by cases e; exact ⟨_, rfl, h⟩
  | _, _, i + 1, _, .cons _ t, e => DtAll.get (i := i) t e
  | _, _, _, _, .nil, e => by simp at e
theorem DtAll.app : ∀ {vs us : List V} {ds es : List PyData}, DtAll N H vs ds → DtAll N H us es → DtAll N H (vs ++ us) (ds ++ es)
  | _, _, _, _, .nil, h => h
  | _, _, _, _, .cons r t, h => .cons r (DtAll.app t h)
theorem DtAll.take : ∀ {vs : List V} {ds : List PyData} (n : Nat), DtAll N H vs ds → DtAll N H (vs.take n) (ds.take n)
  | _, _, 0, _ => by simp only [List.take_zero]; exact .nil
  | _, _, n + 1, .nil => by simp only [List.take_nil]; exact .nil
  | _, _, n + 1, .cons r t => .cons r (DtAll.take n t)
theorem DtAll.drop : ∀ {vs : List V} {ds : List PyData} (n : Nat), DtAll N H vs ds → DtAll N H (vs.drop n) (ds.drop n)
  | _, _, 0, h => h
  | _, _, n + 1, .nil => by simp only [List.drop_nil]; exact .nil
  | _, _, n + 1, .cons _ t => DtAll.drop n t
theorem DtAll.strs : ∀ {ns : List Str}, (∀ x ∈ ns, x.length ≤ 1000 ∧ PySem.PyData.strOk x = true) → DtAll N H (ns.map V.str) (ns.map PyData.str)
  | [], _ => .nil
  | x :: ns, h => .cons (.str (h x List.mem_cons_self)) (DtAll.strs fun y hy => h y (List.mem_cons_of_mem _ hy))
mutual
theorem Dt.dp {K : PySem.W.Frag} : ∀ {v : V} {d : PyData}, Dt N H v d → Dp K H v d
  | _, _, .non => .non
  | _, _, .bl b => .bl b
  | _, _, .int i => .int i
  | _, _, .str _ => .str _
  | _, _, .lst _ e h => .lst (sq e) (DtAll.dp h)
  | _, _, .tup _ e h => .tup (sqt e) (DtAll.dp h)
theorem DtAll.dp {K : PySem.W.Frag} : ∀ {vs : List V} {ds : List PyData}, DtAll N H vs ds → DpAll K H vs ds
  | _, _, .nil => .nil
  | _, _, .cons h t => .cons (Dt.dp h) (DtAll.dp t)
end
end
section
variable {N : Addr → Prop} {H : Hp}
mutual
theorem Dt.lay : ∀ {v : V} {d : PyData}, Dt N H v d → d.canLay0 = true
  | _, _, .non => rfl
  | _, _, .bl b => rfl
  | _, _, .int i => rfl
  | _, _, .str h => by simp only [PyData.canLay0]; exact h.2
  | _, _, .lst _ e h => by simp only [PyData.canLay0]; exact DtAll.lay h
  | _, _, .tup _ e h => by simp only [PyData.canLay0]; exact DtAll.lay h
theorem DtAll.lay : ∀ {vs : List V} {ds : List PyData}, DtAll N H vs ds → PyData.canLayAll0 ds = true
  | _, _, .nil => rfl
  | _, _, .cons h t => by simp only [PyData.canLayAll0, Dt.lay h, DtAll.lay t]; rfl
end
end
mutual
theorem Dt.off {N : Addr → Prop} {H : Hp} {D : Addr} (hD : H D = none) : ∀ {v : V} {d : PyData}, Dt N H v d → Dt (fun b => N b ∧ b ≠ D) H v d
  | _, _, .non => .non
  | _, _, .bl b => .bl b
  | _, _, .int i => .int i
  | _, _, .str h => .str h
  | _, _, .lst n e h => .lst ⟨⟨n.1, ne_of_none e hD⟩, n.2⟩ e (DtAll.off hD h)
  | _, _, .tup n e h => .tup ⟨⟨n.1, ne_of_none e hD⟩, n.2⟩ e (DtAll.off hD h)
theorem DtAll.off {N : Addr → Prop} {H : Hp} {D : Addr} (hD : H D = none) : ∀ {vs : List V} {ds : List PyData}, DtAll N H vs ds → DtAll (fun b => N b ∧ b ≠ D) H vs ds
  | _, _, .nil => .nil
  | _, _, .cons h t => .cons (Dt.off hD h) (DtAll.off hD t)
end
section
variable {N : Addr → Prop} {H : Hp} {D : Addr} {kvs : List (Key × V)} (hD : H D = some (.dK kvs))
include hD
mutual
theorem Dt.offd : ∀ {v : V} {d : PyData}, Dt N H v d → Dt (fun b => N b ∧ b ≠ D) H v d
  | _, _, .non => .non
  | _, _, .bl b => .bl b
  | _, _, .int i => .int i
  | _, _, .str h => .str h
  | _, _, .lst n e h => .lst ⟨⟨n.1, ne_of e hD (by intro z; cases z)⟩, n.2⟩ e (DtAll.offd h)
  | _, _, .tup n e h => .tup ⟨⟨n.1, ne_of e hD (by intro z; cases z)⟩, n.2⟩ e (DtAll.offd h)
theorem DtAll.offd : ∀ {vs : List V} {ds : List PyData}, DtAll N H vs ds → DtAll (fun b => N b ∧ b ≠ D) H vs ds
  | _, _, .nil => .nil
  | _, _, .cons h t => .cons (Dt.offd h) (DtAll.offd t)
end
end
section
variable {N : Addr → Prop} {H : Hp} {D : Addr} (hD : ∀ b xs, H b = some (.lst xs) ∨ H b = some (.tup xs) → b ≠ D)
include hD
mutual
theorem Dt.offg : ∀ {v : V} {d : PyData}, Dt N H v d → Dt (fun b => N b ∧ b ≠ D) H v d
  | _, _, .non => .non
  | _, _, .bl b => .bl b
  | _, _, .int i => .int i
  | _, _, .str h => .str h
  | _, _, .lst n e h => .lst ⟨⟨n.1, hD _ _ (.inl e)⟩, n.2⟩ e (DtAll.offg h)
  | _, _, .tup n e h => .tup ⟨⟨n.1, hD _ _ (.inr e)⟩, n.2⟩ e (DtAll.offg h)
theorem DtAll.offg : ∀ {vs : List V} {ds : List PyData}, DtAll N H vs ds → DtAll (fun b => N b ∧ b ≠ D) H vs ds
  | _, _, .nil => .nil
  | _, _, .cons h t => .cons (Dt.offg h) (DtAll.offg t)
end
end
theorem off_ins {H : Hp} {p C dx : Addr} {fs : List (Str × V)} (h : H p = some (.ins C dx fs)) : ∀ b xs, H b = some (.lst xs) ∨ H b = some (.tup xs) → b ≠ p := fun b xs q z => by
  rw [z, h] at q
  rcases q with q | q <;> cases q
/-- anything, and () -/
def rNeE (K : PySem.W.Frag) : R2 := fun x y H Q => ∃ d, Dp K H x d ∧ Dp K H y (.tuple []) ∧ d.canLay0 = true ∧ Q (.bl (!PyData.eqv d (.tuple []))) H
def rEqE (K : PySem.W.Frag) : R2 := fun x y H Q => ∃ d, Dp K H x d ∧ Dp K H y (.tuple []) ∧ d.canLay0 = true ∧ Q (.bl (PyData.eqv d (.tuple []))) H
theorem room_nil {A : Around} {d : PyData} (hu : A.units + 64 < cLine) : A.units + min d.depth (PyData.depth (.tuple [])) < cLine := by
  have h1 : PyData.depth (.tuple []) ≤ 64 := by simp [PyData.depth, PyData.depthAll]
  have h2 : min d.depth (PyData.depth (.tuple [])) ≤ PyData.depth (.tuple []) := Nat.min_le_right _ _
  omega
theorem kNeE {X : Cx} {K : PySem.W.Frag} (hu : X.A.units + 64 < cLine) (h : X.K = K := by rfl) : OpR X (compareOp .NotEq) (rNeE K) := by
  subst h
  intro pins s σ H x y v u Q I rx ry h
  obtain ⟨d, hd, he, sd, q⟩ := h
  obtain ⟨as, r1⟩ := Dp.reads I d x v hd rx
  obtain ⟨bs, r2⟩ := Dp.reads I _ y u he ry
  exact PySem.SeqAt.compareNe_reads r1 r2 sd rfl (room_nil hu) ⟨.bl _, H, I, rfl, q⟩
theorem kEqE {X : Cx} {K : PySem.W.Frag} (hu : X.A.units + 64 < cLine) (h : X.K = K := by rfl) : OpR X (compareOp .Eq) (rEqE K) := by
  subst h
  intro pins s σ H x y v u Q I rx ry h
  obtain ⟨d, hd, he, sd, q⟩ := h
  obtain ⟨as, r1⟩ := Dp.reads I d x v hd rx
  obtain ⟨bs, r2⟩ := Dp.reads I _ y u he ry
  exact PySem.SeqAt.compareEq_reads r1 r2 sd rfl (room_nil hu) ⟨.bl _, H, I, rfl, q⟩
def isNilD : PyData → Bool
  | .tuple [] => true
  | _ => false
theorem eqv_nilT (d : PyData) : PyData.eqv d (.tuple []) = isNilD d := by
  cases d with
  | tuple ds => cases ds <;> simp [PyData.eqv, PyData.eqvAll, isNilD]
  | _ => simp [PyData.eqv, isNilD]
/-- what isinstance says of data -/
def tyN : PyData → String
  | .none => "NoneType" | .bool _ => "bool" | .int _ => "int" | .str _ => "str" | .list _ => "list" | .tuple _ => "tuple" | .dict _ => "dict"
def tyB (a b : String) : Bool := a == b || (a == "bool" && b == "int")
def isTy (T : String) (d : PyData) : Bool := tyB (tyN d) T
theorem kitAll : ∀ n ∈ ["NoneType", "bool", "int", "str", "list", "tuple"], ∀ T ∈ ["str", "int", "bool", "tuple", "dict"], L2.kitB n T = some (tyB n T) := by decide +kernel
theorem Dt.ty {N : Addr → Prop} {H : Hp} {K : PySem.W.Frag} {v : V} {d : PyData} (h : Dt N H v d) {T : String} (hT : T ∈ ["str", "int", "bool", "tuple", "dict"]) : ∃ t, TyX K H v t ∧ PySem.W.kitOne K t (.type T) = some (isTy T d) := by
  cases h with
  | non => exact ⟨_, .base .non, kit_ty (kitAll "NoneType" (by simp) _ hT)⟩
  | bl b => exact ⟨_, .base (.bl b), kit_ty (kitAll "bool" (by simp) _ hT)⟩
  | int i => exact ⟨_, .base (.int i), kit_ty (kitAll "int" (by simp) _ hT)⟩
  | str h => exact ⟨_, .base (.str _), kit_ty (kitAll "str" (by simp) _ hT)⟩
  | lst n e h => exact ⟨_, .base (.lst e), kit_ty (kitAll "list" (by simp) _ hT)⟩
  | tup n e h => exact ⟨_, .base (.tup e), kit_ty (kitAll "tuple" (by simp) _ hT)⟩
end Ls

/-! ### a def whose code's table of objects is known: all(.. for c in text) -/
namespace Ls
open PySem PySem.Spec PyProof.Rows L2
/-- a def as it stands behind the top, its code object at c -/
structure FnT (K : PySem.W.Frag) (x : Str) (st : Stmt) (f : Addr) (fd : FuncData) (c : Addr) : Prop where
  ex : ∃ (oc : Value) (od : Option Addr) (dV kV doc pm : Value) (an : Option Addr) (ct : Value) (osl : Array (Option Value)),
    fd = PySem.W.fnOf x x (defArgs st) (defBody st) (defScope st) dV kV doc pm an (.ref c) ct ∧ K.lookup f = some ⟨oc, od, .func fd, osl⟩ ∧ PySem.W.codeIn K (.ref c) x = true
  kp : PySem.W.keepIn K (.ref f) = true
theorem FnT.ok {P : Program} {w : World} {K : PySem.W.Frag} {mg : Str → Option Value} {base : Heap} {x : Str} {st : Stmt} {f c : Addr} {fd : FuncData} {CX : CXT} {N ps : List Str} {k : Nat} {sp : Sp} (F : FnT K x st f fd c) (S : FnScope N ps (defScope st)) (len : ∀ vs H Q E, sp vs H Q E → vs.length = ps.length)
    (hbody : ∀ (A : Around) (outer : List Env) (s : Shared) (H : Hp) (vs : List V) (Q : VK) (E : XK), Room k (A.deeper (envOfC x (defScope st) s.heap.objs.size f (.ref c))) → sp vs H Q E →
      ∃ t, PSs (cxOf CX P w K mg base N x (defScope st) f (.ref c) A outer s H E) (defBody st) t ∧ t { nx := fun _ H' => Q .non H', rt := Q } (start N vs) H) : FnOk P w K mg base CX (k + 1) f fd ps sp := by
  obtain ⟨oc, od, dV, kV, doc, pm, an, ct, osl, rfl, lk, hcd⟩ := F.ex
  exact fn_of lk hcd S len fun A outer s H vs Q E hr hsp => hbody A outer s H vs Q E hr hsp
theorem elt_between {prog : Program} {w : World} {scope : Scope} {x lo hi : Str} {j1 j2 : Nat} {p0 p1 p2 p3 : Pos} (hk : scope.kind = .function) (hl : scope.names.lookup x = some .local) (hd : (x == ("__debug__" : Str)) = false := by decide) :
    GxR.EltP prog w scope x (.Compare (.Constant (.str lo) j1 p0) [.LtE, .LtE] [.Name x p1, .Constant (.str hi) j2 p2] p3) (fun c => !decide ([c] < lo.cps.toList) && !decide (hi.cps.toList < [c])) := by
  intro cenv A' E' c t s₂ m₂ hs hn hm
  refine Compare_chain (Calls.Constant_str ?_)
  refine chain_link (wpAny_Name (wpAny_loadName_local (by rw [hs]; exact hk) (show cenv.scope.names.lookup x = some .local by rw [hs]; exact hl) hn hm ?_) hd)
  refine PySem.P.le_str (wpAny_truthy_bool ?_)
  cases h1 : decide ([c] < lo.cps.toList) with
  | true => exact ite_ff ⟨by simp [h1], GxR.keeps_tok _ _⟩
  | false => exact ite_tt (chain_last (Calls.Constant_str (PySem.P.le_str ⟨by simp [h1], GxR.keeps_tok _ _⟩)))
end Ls

/-! ### defs that may raise, as callers need them; an own error without a text -/
namespace Ls
open PySem PySem.Spec PyProof.Rows L2
structure CalX (P : Program) (w : World) (K : PySem.W.Frag) (mg : Str → Option Value) (base : Heap) (k : Nat) (x : Str) (sp : Sp) (dvs : List V) : Prop where
  ex : ∃ (f : Addr) (fd : FuncData) (ps : List Str) (ds : List Value), FnOk P w K mg base (L2.CX P w) k f fd ps sp ∧ mg x = some (.ref f) ∧ PySem.W.keepIn K (.ref f) = true ∧ Binds K fd ps ds ∧ Vals dvs ds
section
variable {X : Cx} {W : WX} {E : XK} {e : Expr} {es : List Expr} {t : TA} {p pos : Pos} {x : Str} {k j : Nat} {sp : Sp} {dvs : List V} {C : Addr}
theorem pe_cx (c : CalX X.prog X.w X.K X.mg X.base k x sp dvs) (tk : Takes X W) (hE : ∀ cls d σ H, E cls d H → W cls d σ H) (hr : Room j X.A) (hk : k ≤ j) (hg : Gl X x) (ha : PA X (e :: es) t) (hdb : (x == ("__debug__" : Str)) = false := by decide)
    (he : starEach (e :: es) X.env = (false, eval e X.env) :: starEach es X.env := by rfl) (hpl : (backTo pos (starEach es X.env)).any (·.1) = false := by rfl) : PE X (.Call (.Name x p) (e :: es) [] pos) (tCall sp dvs E t) := by
  have ⟨f, fd, ps, ds, F, hm, kp, b, d⟩ := c.ex
  exact pe_call F (hr.mono hk) hg hm kp b d (passes_call tk hE) ha hdb he hpl
variable {bmB : List Value} {B newId initId : String}
theorem pmk_own0 (F : ExcBaseFacts B newId initId bmB) (q : PySem.W.excIn X.K C bmB newId = true) (gC : X.mg x = some (.ref C)) (kC : PySem.W.keepIn X.K (.ref C) = true) (r : Raises X (.ref C)) (hg : Gl X x) (hdb : (x == ("__debug__" : Str)) = false := by decide) :
    PMk X (.Call (.Name x p) [] [] pos) (fun _ H Q => Q (.ref C) none H) := by
  intro pins s σ H Q I h
  refine wpAny_Call_Name_kw (ld_glob I hg gC ?_ hdb)
  refine PySem.W.callWith_K0 I.kIn kC ?_
  have ⟨bm, N, nm, qn, bs, hdct, sn, sub, ab, col, dd, k0, k1, k2, k3, k5, mN, hC, hN, hni, T⟩ := exc_obj I.kIn q
  refine wpAny_call_exc_subT F T hC hN hni (fun h' e hm => ?_) (Nat.zero_le _)
  exact mk_of I hm r h (I.hok.gone hm.new)
end
/-! a local name that holds one of two defs that may raise, called within a try -/
structure CalAX (P : Program) (w : World) (K : PySem.W.Frag) (mg : Str → Option Value) (base : Heap) (k : Nat) (f : Addr) (sp : Sp) : Prop where
  ex : ∃ (fd : FuncData) (ps : List Str), FnOk P w K mg base (L2.CX P w) k f fd ps sp ∧ PySem.W.keepIn K (.ref f) = true ∧ Binds K fd ps []
def tCallW (i : Nat) (f1 f2 : Addr) (sp1 sp2 : Sp) (W : WX) (t : TA) : TE := fun σ H Q => (σ[i]? = some (some (.ref f1)) ∧ t σ H fun vs H1 => sp1 vs H1 Q (WE W σ)) ∨ (σ[i]? = some (some (.ref f2)) ∧ t σ H fun vs H1 => sp2 vs H1 Q (WE W σ))
section
variable {X : Cx} {W : WX} {e : Expr} {es : List Expr} {t : TA} {p pos : Pos} {x : Str} {j : Nat}
theorem pe_cxv {i k1 k2 : Nat} {f1 f2 : Addr} {sp1 sp2 : Sp} (c1 : CalAX X.prog X.w X.K X.mg X.base k1 f1 sp1) (c2 : CalAX X.prog X.w X.K X.mg X.base k2 f2 sp2) (tk : Takes X W) (hr : Room j X.A) (l1 : k1 ≤ j) (l2 : k2 ≤ j) (hN : X.N[i]? = some x) (hv : Vis X.env.scope x) (ha : PA X (e :: es) t)
    (hd : (x == ("__debug__" : Str)) = false := by decide) (hcd : (x == ("__classdict__" : Str)) = false := by decide) (he : starEach (e :: es) X.env = (false, eval e X.env) :: starEach es X.env := by rfl) (hpl : (backTo pos (starEach es X.env)).any (·.1) = false := by rfl) :
    PE X (.Call (.Name x p) (e :: es) [] pos) (tCallW i f1 f2 sp1 sp2 W t) := by
  refine ⟨fun pins s σ H Q I h => ?_⟩
  have run : ∀ {k : Nat} {f : Addr} {sp : Sp}, CalAX X.prog X.w X.K X.mg X.base k f sp → k ≤ j → σ[i]? = some (some (.ref f)) → (t σ H fun vs H1 => sp vs H1 Q (WE W σ)) → wpAny (model X.prog X.w) X.A (eval (.Call (.Name x p) (e :: es) [] pos) X.env) (EP X pins σ Q) X.xe s := fun {k f sp} c hk hs ht => by
    have ⟨fd, ps, F, kp, b⟩ := c.ex
    refine wpAny_Call_Name_kw (thn ((pe_var (pos := p) hN hv hd hcd).run pins s σ H (fun v H1 => v = .ref f ∧ H1 = H) I ⟨.ref f, hs, rfl, rfl⟩) fun u s1 ⟨v, H1, I1, r1, ev, eH⟩ => ?_)
    subst ev eH
    cases r1
    exact PySem.W.callWith_K (h₀ := X.base) I.ok.mod.kin kp (thn (ha.run pos pins s1 σ _ _ I1 ht) fun us s2 ⟨vs, H2, I2, r, q⟩ => ⟨I2.kIn, run_fnS (E := WE W) F (hr.mono hk) b (passAt tk σ) I2 r q⟩) he hpl
  rcases h with ⟨h1, h2⟩ | ⟨h1, h2⟩
  · exact run c1 l1 h1 h2
  · exact run c2 l2 h1 h2
end
end Ls

/-! ### C(..), C's __init__ may raise; within a try what the suites take stands at the caller's slots -/
namespace Ls
open PySem PySem.Spec PyProof.Rows L2
structure MakX (P : Program) (w : World) (K : PySem.W.Frag) (mg : Str → Option Value) (base : Heap) (k : Nat) (x : Str) (C : Addr) (sp : Sp) : Prop where
  ex : ∃ (f : Addr) (fd : FuncData) (ps : List Str), Mk K C f ∧ FnOk P w K mg base (L2.CX P w) k f fd ps sp ∧ mg x = some (.ref C) ∧ Binds K fd ps []
section
variable {X : Cx} {CX : CXT} {W : WX} {k j : Nat} {f C : Addr} {fd : FuncData} {ps : List Str} {sp : Sp} {E : XK} {x : Str} {p pos : Pos} {e : Expr} {es : List Expr} {t : TA}
theorem run_mkS {pins : List (Addr × Obj)} {σ : L2.St} {H : Hp} {s : Shared} {Q : VK} {us : List Value} {vs : List V} (mk : Mk X.K C f) (fn : FnOk X.prog X.w X.K X.mg X.base CX k f fd ps sp) (room : Room (k + 1) X.A) (bi : Binds X.K fd ps [])
    (pa : PassesAt CX X σ E) (I : Inv X pins σ H s) (r : Vals vs us)
    (h : ∀ x dx, H x = none → H dx = none → dx ≠ x → sp (.ref x :: vs) (upd (upd H dx (.own x)) x (.ins C dx [])) (fun v H2 => v = .non ∧ Q (.ref x) H2) E) : wpAny (model X.prog X.w) X.A (call (.ref C) us) (EP X pins σ Q) X.xe s := by
  let n := s.heap.objs.size
  have q0 := h (n + 1) n (I.hok.fresh (Nat.le_succ _)) (I.hok.fresh (Nat.le_refl _)) (Nat.ne_of_lt (Nat.lt_succ_self _))
  have J := Inv.made (C := C) I
  have rr : Vals (V.ref (n + 1) :: vs) (Value.ref (n + 1) :: us) := .cons rfl r
  have len : (Value.ref (n + 1) :: us).length = ps.length := rr.length.symm.trans (fn.len _ _ _ _ q0)
  have b0 := bi _ (Value.ref (n + 1) :: us) J.kIn (by rw [List.append_nil]; exact len)
  rw [List.append_nil] at b0
  have run := fn.run _ X.stack _ _ ⟨Value.ref (n + 1) :: us, []⟩ (Value.ref (n + 1) :: us) _ _ E (room.make C us []) (J.env0.make C us []) b0 rr q0
  refine wpAny_call (make_map (f := f) I.kIn mk.makes mk.init (beq_iff_eq.mp mk.fn) (codeAny_mono run fun z s' hz => ?_))
  cases z with
  | error e => exact pa pins _ _ e s' J hz
  | ok fl =>
    cases fl with
    | ret u =>
      obtain ⟨v, H', I3, rv, ev, q3⟩ := J.after hz
      cases ev
      exact ⟨rv, V.ref (n + 1), H', I3, rfl, q3⟩
    | _ => exact False.elim hz
def tMakeS (C : Addr) (sp : Sp) (W : WX) (t : TA) : TE := fun σ H Q => t σ H fun vs H1 => ∀ x dx, H1 x = none → H1 dx = none → dx ≠ x → sp (.ref x :: vs) (upd (upd H1 dx (.own x)) x (.ins C dx [])) (fun v H2 => v = .non ∧ Q (.ref x) H2) (WE W σ)
theorem pe_mkxS (c : MakX X.prog X.w X.K X.mg X.base k x C sp) (tk : Takes X W) (hr : Room j X.A) (hk : k + 1 ≤ j) (hg : Gl X x) (ha : PA X (e :: es) t) (hdb : (x == ("__debug__" : Str)) = false := by decide)
    (he : starEach (e :: es) X.env = (false, eval e X.env) :: starEach es X.env := by rfl) (hpl : (backTo pos (starEach es X.env)).any (·.1) = false := by rfl) : PE X (.Call (.Name x p) (e :: es) [] pos) (tMakeS C sp W t) := by
  have ⟨f, fd, ps, M, F, hm, b⟩ := c.ex
  refine ⟨fun pins s σ H Q I h => wpAny_Call_Name_kw (ld_glob I hg hm ?_ hdb)⟩
  exact PySem.W.callWith_K (h₀ := X.base) I.ok.mod.kin M.kp (thn (ha.run pos pins s σ H _ I h) fun us s1 ⟨vs, H1, I1, r, q⟩ => ⟨I1.kIn, run_mkS M F (hr.mono hk) b (passAt tk σ) I1 r q⟩) he hpl
theorem pe_mkx (c : MakX X.prog X.w X.K X.mg X.base k x C sp) (tk : Takes X W) (hE : ∀ cls d σ H, E cls d H → W cls d σ H) (hr : Room j X.A) (hk : k + 1 ≤ j) (hg : Gl X x) (ha : PA X (e :: es) t) (hdb : (x == ("__debug__" : Str)) = false := by decide)
    (he : starEach (e :: es) X.env = (false, eval e X.env) :: starEach es X.env := by rfl) (hpl : (backTo pos (starEach es X.env)).any (·.1) = false := by rfl) : PE X (.Call (.Name x p) (e :: es) [] pos) (tMake C sp [] E t) := by
  have ⟨f, fd, ps, M, F, hm, b⟩ := c.ex
  exact pe_make M F (hr.mono hk) hg hm b .nil (passes_call tk hE) ha hdb he hpl
end
end Ls

/-! ### an own exception's __init__ that begins by super().__init__(text) -/
namespace Ls
open PySem PySem.Spec PyProof.Rows L2 NdefX
/-- what the written part and the program tell of the class at C and of its __init__ at f -/
structure SupC (P : Program) (K : PySem.W.Frag) (C f cc : Addr) (F : NF) (fd : FuncData) : Prop where
  oex : OexC K C
  ini : PySem.W.findIn K (.ref C) "__init__" = some (some (.ref f))
  typ : PySem.W.typeIn K (.ref f) = some (.type "function")
  fn : ∃ (oc : Value) (od : Option Addr) (doc pm ctv : Value) (osl : Array (Option Value)), fd = F.fd doc pm ctv ∧ K.lookup f = some ⟨oc, od, .func (F.fd doc pm ctv), osl⟩
  cod : PySem.W.codeIn K (.ref F.c) F.qual = true
  cl : F.cl = [(("__class__" : Str), cc)]
  cell : ∃ cl cld csl, K.lookup cc = some ⟨cl, cld, .cell (some (.ref C)), csl⟩
  file : ∃ ccl cdd vs ccs file tf, K.lookup F.c = some ⟨ccl, cdd, .fields vs, ccs⟩ ∧ vs[2]? = some (.str file tf) ∧ ((P.main.file : Str) == file) = true
  sup : PySem.W.nsIn K mainGlobals "super" = some none
  top : (P.main.scope.names.lookup ("super" : Str)).isSome = false
  opq : PySem.W.nsIn K cStatics "thirdparty.any" = some none
  mth : PySem.W.ks_superIn K C C "__init__" = some (some (.builtin "ValueError.__init__"))
  sve : PySem.W.subIn K (.ref C) (.type "ValueError") = some true
  mro : PySem.W.mroIn K C (.ref C) = some true
section
variable {M : Model} {prog : Program} {w : World} {A : Around} {E : Value → Shared → Prop} {h : Heap} {g : Array GenState} {d : Drawn} {t : Nat} {os : OsState}
open PySem.W in
/-- the wrapper, called -/
theorem call_mw {u x C t0 : Addr} {rest : List Value} {Q : Value → Shared → Prop} {nm q : Str} {N : Addr} {bs bm : List Value} {hdct : Bool} {sn : List Str} {sub : List Value} {ab : Bool} {col : Option Bool} {dd : Option Addr} {k0 k1 k2 k3 k5 : Option Value}
    (hC : h.get? C = some (excClassObj nm q C N bs bm hdct sn sub ab col dd k0 k1 k2 k3 k5 "ValueError.__new__")) (he : h.get? x = some ({ cls := .ref C, dict := none, data := .fields #[.ref t0, .none, .none, .none, .bool false, .none] } : Obj))
    (hu : h.get? u = some (kxs_mw "ValueError.__init__" x)) (hz : rest.length ≤ sizeLine)
    (hq : ∀ h' t1, (∀ b o, b ≠ x → h.get? b = some o → h'.get? b = some o) → h'.get? x = some ({ cls := .ref C, dict := none, data := .fields #[.ref t1, .none, .none, .none, .bool false, .none] } : Obj) → Q .none ⟨h', g, d, t, os⟩) :
    wpAny (model prog w) A (call (.ref u) rest) Q E ⟨h, g, d, t, os⟩ := by
  refine wpAny_call (codeAny_of_tree ?_)
  show wpAny _ A.in1 (callAny (.ref u) ⟨rest, []⟩) _ _ _
  simp only [callAny]
  refine wpAny_bind (wpAny_load hu ?_)
  simp only [kxs_mw, show (Value.type "method-wrapper" == Value.type "method" || Value.type "method-wrapper" == Value.type "builtin_function_or_method" || Value.type "method-wrapper" == Value.type "method-wrapper") = true by decide, if_true]
  refine KFB.if_so (by decide) ?_
  refine wpAny_bind (check_bound_init F.excBase_ValueError.toExcCallFacts hC he rfl ?_)
  refine wpAny_bind (wpAny_pure (wpAny_pure ?_))
  refine ⟨plainId_quiet F.excBase_ValueError.init.plain _, codeAny_builtin F.excBase_ValueError.initEntry ?_⟩
  exact exc_init_tree (cls := .ref C) (t0 := t0) (dv := none) (c2 := .none) (c3 := .none) (b4 := .bool false) he hz fun h' k e' t' => hq h' _ k e'
end
section
variable {CX : CXT} {P : Program} {w : World} {K : PySem.W.Frag} {mg : Str → Option Value} {base : Heap} {N ps : List Str} {F : NF} {C f cc : Addr} {fd : FuncData} {k : Nat} {sp : Sp}
theorem SupC.cells (U : SupC P K C f cc F fd) {A : Around} {outer : List Env} {s : Shared} {H : Hp} (e0 : Env0 P w K mg base A outer s H) : CellsAt F.cl ["__class__"] [some (.ref C)] s.heap H := by
  obtain ⟨cl, cld, csl, hc⟩ := U.cell
  have hb := e0.bs _ _ (e0.mod.kin _ _ hc)
  have one : ∀ y c, F.cl.lookup y = some c → y = "__class__" ∧ c = cc := fun y c e => by
    rw [U.cl] at e
    by_cases h : y = ("__class__" : Str)
    · subst h
      exact ⟨rfl, by simpa using e.symm⟩
    · have hb : (y == ("__class__" : Str)) = false := by simpa using h
      simp [List.lookup, hb] at e
  refine ⟨rfl, fun y c e => ?_, fun x y c e1 e2 => (one x c e1).1.trans (one y c e2).1.symm, fun i y hi => ?_⟩
  · rw [(one y c e).2]
    exact ⟨hb.2, _, _, hb.1, rfl⟩
  · cases i with
    | zero =>
      cases hi
      exact ⟨cc, by rw [U.cl]; simp, fun v hv => by cases hv; exact ⟨.ref C, rfl, _, hb.1, rfl⟩⟩
    | succ i => cases i <;> cases hi
/-- THE RULE: such an __init__, by what stands behind super().__init__(text) -/
theorem fn_sup (U : SupC P K C f cc F fd) {p0 p1 p2 p3 p4 p5 : Pos} {txt : Str} {kd : Nat} {rest : List Stmt}
    (hbd : F.body = .Expr (.Call (.Attribute (.Call (.Name "super" p0) [] [] p1) "__init__" p2) [.Constant (.str txt) kd p5] [] p3) p4 :: rest) (S : NScope N ("self" :: ps) ["__class__"] F.scope)
    {ar : Arg} (har : (F.params.posonlyargs ++ F.params.args).head? = some ar) (har1 : ar.arg = "self") (hks : F.scope.names.lookup ("super" : Str) = some .globalImplicit)
    (hcall : ∀ L, ∃ pl, eval (.Call (.Attribute (.Call (.Name "super" p0) [] [] p1) "__init__" p2) [.Constant (.str txt) kd p5] [] p3) (envF F f L) = (do
      let ov ← attributeBase (.Call (.Name "super" p0) [] [] p1) "__init__" (envF F f L) (eval (.Call (.Name "super" p0) [] [] p1) (envF F f L))
      standAt p2.atName
      let (fx, first) ← holding [ov] (getMethod ov "__init__" pl)
      callWith p3 fx first (backTo p3 (starEach [.Constant (.str txt) kd p5] (envF F f L))) []))
    (hint : ∀ L, interactive (envF F f L) = false) (hsw : ∀ L, swapsWith (.Call (.Attribute (.Call (.Name "super" p0) [] [] p1) "__init__" p2) [.Constant (.str txt) kd p5] [] p3) none p4.line (envF F f L) = pure false)
    (len : ∀ vs H Q E, sp vs H Q E → vs.length = ps.length + 1) (obj : ∀ vs H Q E, sp vs H Q E → ∃ a vs', vs = .ref a :: vs' ∧ H a = some (exo a C none))
    (hbody : ∀ (A : Around) (outer : List Env) (s : Shared) (H : Hp) (vs : List V) (Q : VK) (E : XK), Room k (A.deeper (envF F f s.heap.objs.size)) → sp vs H Q E →
      ∃ t, PSs (ncx CX P w K mg base N F f A outer s H E) rest t ∧ t { nx := fun _ H' => Q .non H', rt := Q } (startF N vs [some (.ref C)]) H) :
    FnOk P w K mg base CX (k + 1) f fd ("self" :: ps) sp := by
  refine ⟨len, fun A outer s H args us vs Q E hr e0 hb r hsp => ?_⟩
  have hl := len _ _ _ _ hsp
  have KX : K.In s.heap := e0.mod.kin.keeps fun b o e => (e0.bs b o e).1
  have lim : s.heap.NoLimit := e0.mod.nolimit.keeps fun b o e => (e0.bs b o e).1
  obtain ⟨oc, od, doc, pm, ctv, osl, rfl, lk⟩ := U.fn
  refine codeAny_call_function hr.depth (KX _ _ lk) rfl S.co S.gen rfl (PySem.W.codeRec_of KX U.cod) (hb _ _ _ _ ?_)
  refine wpAny_newFunctionEnv S.nocell (fun ⟨n, _⟩ hy => S.par n (List.of_mem_zip hy).1) (fun h₁ hns hsb => ⟨lim.fresh _ hsb, ?_⟩) S.kind
  show codeAny _ _ (.func F.body (envF F f s.heap.objs.size)) _ _
  have kp : ∀ b o, s.heap.get? b = some o → h₁.get? b = some o := fun b o e => hsb.extBut b o (Nat.ne_of_lt (Heap.lt_size e)) (Heap.get?_push_of_some _ e)
  obtain ⟨t, ht, hq⟩ := hbody A outer s H vs Q E (hr.deeper _) hsp
  obtain ⟨a, vs', rfl, ha⟩ := obj _ _ _ _ hsp
  have I : L2.Inv (ncx CX P w K mg base N F f A outer s H E) [] (startF N (.ref a :: vs') [some (.ref C)]) H { s with heap := h₁, toks := s.toks + ((("self" : Str) :: ps).zip us).length } := inv_startN S hr.hd e0 hl r (U.cells e0) hns kp
  refine ks_codeAny_funcAt ?_
  rw [hbd]
  obtain ⟨hp, gg, dd, tt, oo⟩ := s
  have I : L2.Inv (ncx CX P w K mg base N F f A outer ⟨hp, gg, dd, tt, oo⟩ H E) [] (startF N (.ref a :: vs') [some (.ref C)]) H ⟨h₁, gg, dd, tt + ((("self" : Str) :: ps).zip us).length, oo⟩ := I
  have X := I.kIn
  have KXh : K.In h₁ := X
  obtain ⟨nm, q0, NN, bs, bm, sn, sub, ab, col, dd', k0, k1, k2, k3, k5, hCls, hbm⟩ := U.oex.cls
  obtain ⟨clc, cld, csl, hcell⟩ := U.cell
  obtain ⟨ccl, cdd, vs2, ccs, file, tf, hcode, hvs, hfile⟩ := U.file
  have hka : F.scope.names.lookup ("self" : Str) = some .local := S.par _ List.mem_cons_self
  have hkc : F.scope.names.lookup ("__class__" : Str) = some .free := S.frk _ List.mem_cons_self
  obtain ⟨mb, hb1, hb2⟩ := e0.mod.blt
  obtain ⟨m, hnsL, hlook⟩ := I.loc
  have hself : m "self" = some (.ref a) := by
    obtain ⟨u, ru, hu⟩ := hlook 0 "self" (.ref a) (by
      have := S.pre
      cases N with
      | nil => simp at this
      | cons x N => simp at this; exact congrArg some this.1) rfl (.inl hka)
    obtain rfl : u = Value.ref a := ru
    rcases hu with ⟨_, h2⟩ | ⟨h2, _⟩
    · exact h2
    · have e : (envF F f hp.objs.size).kindOf ("self" : Str) = some .local := hka
      rcases h2 with h2 | h2
      · exact absurd (e.symm.trans h2) (by decide)
      · exact absurd (e.symm.trans h2) (by decide)
  obtain ⟨pl, hcall⟩ := hcall hp.objs.size
  have ha1 := exo_at I.hok ha
  obtain ⟨t1, hx⟩ := ha1
  refine ks_wpAt_execs_cons (ks_wpAt_Expr_any (ks_wpAt_MethodCall (he := hcall) ?_) (hint _) (hsw _))
  refine ks_wpAt_super_base (f := f) (cc := F.c) hks hkc rfl rfl (KXh _ _ lk) rfl har rfl (KXh _ _ hcode) rfl hvs hfile U.top ?_
  rw [har1]
  refine PySem.W.ks_loadName_global S.kind hks (Calls.loadGlobal_builtin (e0.mod.glob.keeps fun b o e => kp b o (e0.bs b o e).1) (PySem.W.mg_none_of (h := base) e0.mod.kin e0.mod.glob U.sup) (hb1.keeps fun b o e => kp b o (e0.bs b o e).1) ((hb2 _ (by decide)).trans (show bootBuiltins "super" = some (.type "super") by decide +kernel)) ⟨rfl, ?_⟩)
  refine wpAny_loadName_free (c := cc) S.kind hkc (by show F.cl.lookup ("__class__" : Str) = some cc; rw [U.cl]; rfl) ⟨_, KXh _ _ hcell, rfl⟩ ?_
  refine wpAny_loadName_local S.kind hka hnsL hself ?_
  have hD := KXh _ _ hCls
  refine ks_wpAny_isType_cls hD rfl ⟨rfl, ?_⟩
  refine ks_wpAny_call_super hD rfl hx rfl (fun c z => by cases z) (PySem.W.looks_mroIn KXh U.mro) (fun h2 e2 k2 => ?_)
  have I2 := I.kept (t' := tt + ((("self" : Str) :: ps).zip us).length) (h' := h2) k2
  have hx2 := k2 _ _ hx
  have IA : PySem.W.InstAt h2 a ({ cls := .ref C, dict := none, data := .fields #[.ref t1, .none, .none, .none, .bool false, .none] } : Obj) C none := ⟨hx2, rfl, rfl, trivial⟩
  have hI : PySem.W.Looks (model P w) h2 (isInstance (.ref a) (.type "ValueError")) true := IA.type.andThen (PySem.W.looks_subIn I2.kIn U.sve)
  have hm := U.mth
  cases hc : PySem.W.clsIn K C with
  | none => unfold PySem.W.ks_superIn at hm; rw [hc] at hm; cases hm
  | some cd =>
    unfold PySem.W.ks_superIn at hm
    rw [hc] at hm
    refine PySem.W.kxs_getMethod PySem.W.kxs_ValueError e2 (PySem.W.looks_opaque I2.kIn U.opq) (l₀ := cd.mro) (fun A Q E s k q => wpAny_bind ((PySem.W.looks_clsIn I2.kIn hc) A _ E s k (wpAny_pure q))) rfl I2.kIn hm hI (PySem.W.ks_ne I2.kIn IA hc) rfl ?_
    have hu : (h2.push (PySem.W.kxs_mw "ValueError.__init__" a)).get? h2.objs.size = some (PySem.W.kxs_mw "ValueError.__init__" a) := Heap.get?_push_at rfl rfl
    have I3 := I2.kept (t' := tt + ((("self" : Str) :: ps).zip us).length + 1) (h' := h2.push (PySem.W.kxs_mw "ValueError.__init__" a)) fun b o e => Heap.get?_push_of_some _ e
    have I3p := I3.pins_of (pins' := [(h2.objs.size, PySem.W.kxs_mw "ValueError.__init__" a)]) fun p hp => by
      rw [List.mem_singleton.mp hp]
      exact ⟨hu, I2.hok.fresh (Nat.le_refl _), Nat.ne_of_gt I2.lt, I2.nofs (Nat.le_refl _), fun v z => by cases z⟩
    have PAx : PA (ncx CX P w K mg base N F f A outer ⟨hp, gg, dd, tt, oo⟩ H E) [.Constant (.str txt) kd p5] (tCons (tC (.str txt)) tNil) := pa_cons pe_str pa_nil
    refine PySem.W.kxs_callWith (i := "ValueError.__init__") (u := h2.objs.size) (x := a) rfl (Calls.evalArgs_plain (thn (PAx.run p3 _ _ _ H (fun vs H1 => vs = [.str txt] ∧ H1 = H) I3p ⟨rfl, rfl⟩) fun us2 s4 ⟨vs4, H4, I4, r4, ev, eH⟩ => ?_))
    subst ev eH
    have hu4 := (I4.pin _ (List.mem_append_right _ (List.mem_singleton.mpr rfl))).1
    refine ⟨hu4, ?_⟩
    obtain ⟨t4, hx4⟩ := exo_at I4.hok ha
    have hz : us2.length ≤ sizeLine := by
      have := Paired.length r4
      rw [← this]
      show 1 ≤ sizeLine
      decide
    obtain ⟨hp4, g4, d4, tk4, o4⟩ := s4
    refine call_mw (I4.kIn _ _ hCls) hx4 hu4 hz fun h5 t5 k5 hx5 => ?_
    have J := I4.write (t' := tk4) (h' := h5) (x := a) (e := a) (o := exo a C none) (by rw [ha]; exact True.intro) (.inl rfl) k5 ⟨_, hx5⟩ (exo_ok hx5)
    have eu : upd H4 a (exo a C none) = H4 := by
      funext b
      by_cases hb : b = a
      · rw [hb, upd_same, ha]
      · rw [upd_ne hb]
    rw [eu] at J
    have J5 := J.pins_of (pins' := []) fun p hp => by cases hp
    refine wpAt_of_wpAny (wpAny_mono (ht.run [] _ _ _ _ J5 hq) (fun fl s' hs => ?_) fun e s' hs => hs)
    cases fl with
    | ret u =>
      obtain ⟨v, σ', H', J, rv, q⟩ := hs
      exact ⟨v, H', J.os, J.bare, J.base, J.hok, rv, q⟩
    | next =>
      obtain ⟨σ', H', J, q⟩ := hs
      exact ⟨V.non, H', J.os, J.bare, J.base, J.hok, rfl, q⟩
    | brk =>
      obtain ⟨_, _, _, q⟩ := hs
      exact False.elim q
    | cont =>
      obtain ⟨_, _, _, q⟩ := hs
      exact False.elim q
end
end Ls

namespace Ls
open PySem PySem.Spec PyProof.Rows L2 NdefX
/-! ### promises put together -/
section
variable {CX : CXT} {P : Program} {w : World} {K : PySem.W.Frag} {mg : Str → Option Value} {base : Heap} {k j : Nat} {f : Addr} {fd : FuncData} {ps : List Str} {sp sp1 sp2 : Sp} {X : Cx}
theorem fn_lift0 (F : FnOk P w K mg base CX0 k f fd ps sp) : FnOk P w K mg base CX k f fd ps sp := ⟨F.len, fun A outer s H args us vs Q E hr e0 hb r h => codeAny_mono (F.run A outer s H args us vs Q E hr e0 hb r h) fun x s' q => by
  cases x with
  | ok u =>
    cases u with
    | ret v => exact q
    | _ => exact False.elim q
  | error e => exact False.elim q⟩
theorem fn_or (F : FnOk P w K mg base CX k f fd ps sp1) (G : FnOk P w K mg base CX k f fd ps sp2) : FnOk P w K mg base CX k f fd ps (fun vs H Q E => sp1 vs H Q E ∨ sp2 vs H Q E) :=
  ⟨fun vs H Q E h => h.elim (F.len _ _ _ _) (G.len _ _ _ _), fun A outer s H args us vs Q E hr e0 hb r h => h.elim (F.run A outer s H args us vs Q E hr e0 hb r) (G.run A outer s H args us vs Q E hr e0 hb r)⟩
def spNo : Sp := fun _ _ _ _ => False
theorem fn_no : FnOk P w K mg base CX k f fd ps spNo := ⟨fun _ _ _ _ h => h.elim, fun _ _ _ _ _ _ _ _ _ _ _ _ _ h => h.elim⟩
theorem pss_no {st : List Stmt} : PSs X st (fun _ _ _ => False) := ⟨fun _ _ _ _ _ _ h => h.elim⟩
theorem pi_or {tg it : Expr} {w1 w2 : TI} (h1 : PI X tg it w1) (h2 : PI X tg it w2) : PI X tg it (fun σ H R => w1 σ H R ∨ w2 σ H R) :=
  ⟨fun pins s σ H R I h => h.elim (h1.run pins s σ H R I) (h2.run pins s σ H R I)⟩
end
section
variable {X : Cx} {W : WX} {e : Expr} {es : List Expr} {t : TA} {p pos : Pos} {x : Str} {k j : Nat} {sp : Sp} {dvs : List V}
/-- a call within a try: what the suites take stands at the caller's slots -/
theorem pe_cxS (c : CalX X.prog X.w X.K X.mg X.base k x sp dvs) (tk : Takes X W) (hr : Room j X.A) (hk : k ≤ j) (hg : Gl X x) (ha : PA X (e :: es) t) (hdb : (x == ("__debug__" : Str)) = false := by decide)
    (he : starEach (e :: es) X.env = (false, eval e X.env) :: starEach es X.env := by rfl) (hpl : (backTo pos (starEach es X.env)).any (·.1) = false := by rfl) : PE X (.Call (.Name x p) (e :: es) [] pos) (tCallSD sp dvs (WE W) t) := by
  have ⟨f, fd, ps, ds, F, hm, kp, b, d⟩ := c.ex
  exact pe_callSD F (hr.mono hk) hg hm kp b d (fun σ => passAt tk σ) ha hdb he hpl
end
/-! ### raise C(e), C's __init__: super().__init__(text); self.f = e -/
def spExc1 (C : Addr) (f : Str) : Sp := fun vs H Q _ => ∃ a v, vs = [.ref a, v] ∧ H a = some (exo a C none) ∧ ∀ dx, H dx = none → dx ≠ a → Q .non (upd (upd H dx (exd dx [(f, v)])) a (exo a C (some dx)))
structure ExcS (P : Program) (w : World) (K : PySem.W.Frag) (mg : Str → Option Value) (base : Heap) (x : Str) (C : Addr) (f : Str) : Prop where
  oex : OexC K C
  no : PySem.W.findIn K (.ref C) f = some none
  xf : XfC K C
  gC : mg x = some (.ref C)
  ex : ∃ (fI : Addr) (fd : FuncData) (ps : List Str), PySem.W.findIn K (.ref C) "__init__" = some (some (.ref fI)) ∧ PySem.W.typeIn K (.ref fI) = some (.type "function") ∧ FnOk P w K mg base CX0 1 fI fd ps (spExc1 C f) ∧ Binds K fd ps []
def tMk1 (C : Addr) (f : Str) (te : TE) : L2.St → Hp → XK → Prop := tMkO C (spExc1 C f) [] (tCons te tNil)
/-- how its reading is answered -/
theorem mk1 {C : Addr} {f : Str} {v : V} {H1 : Hp} {Q : XK} (h : ∀ d H2, Same H1 H2 → H1 d = none → H2 d = some (.xd [(f, v)]) → Q (.ref C) (some d) H2) :
    [v].length ≤ 1000 ∧ ∀ a, H1 a = none → spExc1 C f (.ref a :: ([v] ++ [])) (upd H1 a (exo a C none)) (fun u H2 => u = .non ∧ ∃ (d : Addr) (fs : List (Str × V)), H2 a = some (exo a C (some d)) ∧ H2 d = some (exd d fs) ∧ H1 d = none ∧ Q (.ref C) (some d) (upd (del H2 a) d (.xd fs))) (fun _ _ _ => False) := by
  refine ⟨by show 1 ≤ 1000; decide, fun a ha => ⟨a, v, rfl, upd_same, fun dx hn hne => ⟨rfl, dx, [(f, v)], upd_same, ?_, ?_, ?_⟩⟩⟩
  · rw [upd_ne hne, upd_same]
  · rw [upd_ne hne] at hn; exact hn
  · have hn' : H1 dx = none := by rw [upd_ne hne] at hn; exact hn
    refine h dx _ (fun b o e => ?_) hn' upd_same
    have n1 : b ≠ a := ne_of_none e ha
    have n2 : b ≠ dx := ne_of_none e hn'
    rw [upd_ne n2, del_ne n1, upd_ne n1, upd_ne n2, upd_ne n1]
    exact e
section
variable {X : Cx} {x f : Str} {C : Addr} {j : Nat} {e : Expr} {te : TE} {p pos : Pos}
theorem pmk_sup (U : ExcS X.prog X.w X.K X.mg X.base x C f) (hr : Room j X.A) (hj : 2 ≤ j) (hg : Gl X x) (he : PE X e te) (hdb : (x == ("__debug__" : Str)) = false := by decide)
    (hs : starEach [e] X.env = (false, eval e X.env) :: starEach [] X.env := by rfl) : PMk X (.Call (.Name x p) [e] [] pos) (tMk1 C f te) := by
  obtain ⟨fI, fd, ps, h1, h2, F1, hb⟩ := U.ex
  exact pmk_oex (dvs := []) (ds := []) (e := e) (es := []) (p := p) (pos := pos) U.oex h1 h2 F1 (hr.mono hj) hb .nil pass0 hg U.gC (pa_cons he pa_nil hs) hdb hs rfl
end
/-! ### isinstance of a caught error that has its dict -/
section
open PySem.W
variable {prog : Program} {w : World} {A : Around} {E : Value → Shared → Prop} {s : Shared} {K : Frag} {x D : Addr} {ox : Obj}
theorem kin_classX {od : Option Obj} {Q : Option Value → Shared → Prop} (T : ExcC K D) (X : K.In s.heap) (I : InstAt s.heap x ox D od) (h : Q (some (.ref D)) { s with toks := s.toks + 1 }) : wpAny (model prog w) A (getAttr? (.ref x) "__class__") Q E s := by
  have hc : (clsIn K D).isSome = true := by obtain ⟨cd, hc, _⟩ := any_some T.hd; rw [hc]; rfl
  have hf : findObj K D od "__class__" = some (.bind (.builtin "getset_descriptor.__get__") (.builtin "object.__class__")) := by
    cases od with
    | none => exact findObj_dataN hc T.ha T.hn T.ht
    | some od => exact findObj_data hc T.ha T.hn T.ht
  obtain ⟨hp, g, d, t, os⟩ := s
  have L0 := I.type (M := model prog w); have L1 := looks_findIn (M := model prog w) X T.hg; have L2 := looks_findIn (M := model prog w) X T.hk; have L3 := looks_find (M := model prog w) X I hf
  have sub : Looks (model prog w) hp (isInstance (.ref x) (.type "BaseException")) true := L0.andThen (looks_subIn X T.hs)
  have z2 : (Value.builtin "BaseException.__getattribute__" == Value.builtin "object.__getattribute__") = false := by decide +kernel
  have z1 : (onTheHeap (Value.ref D) && Value.builtin "BaseException.__getattribute__" == Value.builtin "object.__getattribute__") = false := by rw [z2]; rfl
  unfold getAttr? getAttrBy? getAttrBy
  refine wpAny_bind (wpAny_mkText (wpAny_bind (wpAny_attempt (wpAny_holding (wpAny_bind (L0.at (wpAny_bind (L1.at ?_)))))))); show wpAny _ _ (if (onTheHeap (Value.ref D) && Value.builtin "BaseException.__getattribute__" == Value.builtin "object.__getattribute__") = true then _ else _) _ _ _
  rw [z1, if_neg Bool.false_ne_true]; unfold getAttrByItsOwn hookBefore; refine wpAny_bind ?_
  rw [if_pos (show onTheHeap (Value.ref D) = true from rfl)]; refine L2.at ?_; refine wpAny_bind (wpAny_attempt (wpAny_holding ?_)); unfold callGetattribute
  rw [show (false && onTheHeap (Value.builtin "BaseException.__getattribute__")) = false from rfl, if_neg Bool.false_ne_true]; unfold boundAndCalled
  rw [PySem.F.excAttr_ValueError.ga.bind (.ref x)]; refine wpAny_bind (wpAny_pure ?_); show wpAny _ _ (call (.builtin "BaseException.__getattribute__") [.ref x, .str "__class__" t]) _ _ _
  refine wpAny_call (codeAny_call_builtin PySem.F.excAttr_ValueError.ga.plain PySem.F.entry_bexc_ga ?_); refine @check_slot (model prog w) _ _ ⟨hp, g, d, t + 1, os⟩ "BaseException.__getattribute__" "BaseException" "__getattribute__" (.ref x) [.str "__class__" t] [] _ (by decide +kernel) (by decide +kernel) sub (PySem.F.args_bexc_ga (.ref x) (.str "__class__" t)) ?_
  unfold Builtin.«object.__getattribute__»; refine wpAny_bind (wpAny_of_eq (a := ((Value.ref x : Value), [Value.str "__class__" t])) (by first | rfl | (simp only [slotArgs]; rfl)) ?_); refine wpAny_bind (wpAny_pure (wpAny_bind (L0.at (wpAny_bind (L3.at ?_)))))
  show wpAny _ _ (holding [Value.builtin "object.__class__"] (call (.builtin "getset_descriptor.__get__") [.builtin "object.__class__", .ref x, .ref D]) >>= ret) _ _ _
  refine wpAny_bind (wpAny_holding (wpAny_call (class_get (s := ⟨hp, g, d, t + 1, os⟩) (ox := ox) (od := od) X I T.hm ?_))); refine wpAny_pure ?_; show wpAny _ _ (handedOut (.ref D)) _ _ _
  rw [handedOut_of (v := .ref D) rfl]
  first
    | exact wpAny_pure (wpAny_pure h)
    | exact wpAny_pure h
    | exact wpAny_pure (wpAny_bind (wpAny_pure (wpAny_pure h)))
theorem kitx_excX {od : Option Obj} (T : ExcC K D) : KitX K (.ref x) (.ref D) (fun h => InstAt h x ox D od) where
  ty := fun _ _ _ I => I.type
  it := fun _ _ X _ => by
    obtain ⟨cdD, e, _⟩ := any_some T.hd; unfold clsIn at e
    split at e
    · next c' d' cd' sl' ho => intro A' Q' E' s' k q; unfold isType loadHead; exact wpAny_bind (wpAny_loadPart (k _ _ (X _ _ ho)) (wpAny_pure q))
    · cases e
  ne := (handS_kitx_exc (x := x) (ox := ox) T.hg T.hk T.hs T.hd T.ha T.hn T.ht T.hm).ne
  ca := fun X I k => kin_classX T X I k
end
/-- isinstance(e, c), e the exception of the suite, its dict at d -/
def rIsD (K : PySem.W.Frag) (cls : Value) (a : Addr) (d : Option Addr) : List V → Hp → VK → Prop := fun xs H Q => ∃ (c : V) (cv : Value) (b : Bool) (D dd : Addr) (fs : List (Str × V)), xs = [.ref a, c] ∧ cls = .ref D ∧ ExcC K D ∧ d = some dd ∧ H dd = some (.xd fs) ∧ (∀ u, RelV c u → u = cv) ∧ PySem.W.kitOne K (.ref D) cv = some b ∧ Q (.bl b) H
theorem call_isD {X : Cx} {a : Addr} {oe : Obj} {cls : Value} {d : Option Addr} {pn : List (Addr × Obj)} (hz : Zc cls d oe) (hf : ∃ vs, oe.data = .fields vs) : CallR (X.suite a ((a, oe) :: pn)) (.builtin "isinstance") (rIsD X.K cls a d) := by
  intro pins s σ H xs us Q I r h
  obtain ⟨c, cv, b, D, dd, fs, rfl, rfl, C, rfl, hdd, hcv, e, q⟩ := h
  cases r with
  | cons rx rr =>
    cases rr with
    | cons rt rr =>
      cases rr
      cases rx
      have ec := hcv _ rt
      subst ec
      obtain ⟨hget, _⟩ := I.pin (a, oe) (List.mem_append.mpr (.inl List.mem_cons_self))
      obtain ⟨vs, hv⟩ := hf
      have hx : ObjOk X.prog X.w H s.heap dd (.xd fs) := I.hok dd _ hdd
      obtain ⟨mA, hns, hr⟩ := hx
      obtain ⟨od, ho, hl⟩ := lookIn_ns hns
      have J : PySem.W.InstAt s.heap a oe D (some od) := ⟨hget, hz.1, by unfold PySem.W.notCls; rw [hv] <;> rfl, by rw [hz.2]; exact ho⟩
      exact PySem.W.kia_one (kitx_excX C) I.kIn J e (fun z => nomatch z) fun tk => ⟨.bl b, H, I.kept (t' := tk) fun _ _ z => z, rfl, q⟩
end Ls

namespace Ls
open PySem PySem.Spec PyProof.Rows L2
/-! ### expressions behind which a token is out -/
section
variable {X : Cx}
def PEB (X : Cx) (e : Expr) (t : TE) : Prop := ∀ (pins : List (Addr × Obj)) (s : Shared) (σ : L2.St) (H : Hp) (Q : VK), Inv X pins σ H s → t σ H Q →
  wpAny (model X.prog X.w) X.A (eval e X.env) (fun v s1 => 1 ≤ s1.toks ∧ EP X pins σ Q v s1) X.xe s
def PAB (X : Cx) (es : List Expr) (t : TA) : Prop := ∀ (pos : Pos) (pins : List (Addr × Obj)) (s : Shared) (σ : L2.St) (H : Hp) (Q : List V → Hp → Prop), Inv X pins σ H s → t σ H Q →
  wpAny (model X.prog X.w) X.A (spliced (backTo pos (starEach es X.env))) (fun us s1 => 1 ≤ s1.toks ∧ AP X pins σ Q us s1) X.xe s
/-- what holds behind a step, with the tokens that were out -/
theorem stays {α : Type} {M : Model} {A : Around} {t : Sem α} {Q R : α → Shared → Prop} {E : Value → Shared → Prop} {s : Shared} (h0 : 1 ≤ s.toks) (h : wpAny M A t Q E s) (k : ∀ a s1, 1 ≤ s1.toks → Q a s1 → R a s1) : wpAny M A t R E s :=
  wpAny_mono (PySem.wpAny_toks h) (fun a s1 q => k a s1 (Nat.le_trans h0 q.1) q.2) fun _ _ q => q.2
theorem peb_int {i : Int} {j : Nat} {pos : Pos} : PEB X (.Constant (.int i) j pos) (tC (.int i)) := fun pins s σ H Q I h =>
  wpAny_Constant_int ⟨by show 1 ≤ s.toks + 1; omega, .int i, H, I.tok _, ⟨_, rfl⟩, h⟩
theorem peb_op {op : Operator} {r : R2} {a b : Expr} {ta tb : TE} {pos : Pos} (ho : OpR X (binaryOp op) r) (ha : PEB X a ta) (hb : PE X b tb) : PEB X (.BinOp a op b pos) (tOp r ta tb) := by
  intro pins s σ H Q I h
  refine wpAny_BinOp (thn (ha pins s σ H _ I h) fun v s1 ⟨h1, x, H1, I1, r1, q1⟩ => ?_)
  refine stays h1 (hb.run pins s1 σ H1 _ I1 q1) fun u s2 h2 ⟨y, H2, I2, r2, q2⟩ => ?_
  exact stays h2 (ho pins s2 σ H2 x y v u Q I2 r1 r2 q2) fun _ _ h3 q3 => ⟨h3, q3⟩
theorem pab_one {e : Expr} {es : List Expr} {te : TE} {ta : TA} (h1 : PEB X e te) (h2 : PA X es ta) (hs : starEach (e :: es) X.env = (false, eval e X.env) :: starEach es X.env := by rfl) : PAB X (e :: es) (tCons te ta) := by
  intro pos pins s σ H Q I h
  rw [hs]
  show wpAny _ _ (spliced ((false, eval e X.env) :: backTo pos (starEach es X.env))) _ _ s
  refine Calls.spliced_cons (thn (h1 pins s σ H _ I h) fun v s1 ⟨t1, x, H1, I1, r1, q1⟩ => ?_)
  exact stays t1 (h2.run pos pins s1 σ H1 _ I1 q1) fun us s2 t2 ⟨xs, H2, I2, r2, q2⟩ => ⟨t2, x :: xs, H2, I2, .cons r1 r2, q2⟩
theorem pab_more {e : Expr} {es : List Expr} {te : TE} {ta : TA} (h1 : PE X e te) (h2 : PAB X es ta) (hs : starEach (e :: es) X.env = (false, eval e X.env) :: starEach es X.env := by rfl) : PAB X (e :: es) (tCons te ta) := by
  intro pos pins s σ H Q I h
  rw [hs]
  show wpAny _ _ (spliced ((false, eval e X.env) :: backTo pos (starEach es X.env))) _ _ s
  refine Calls.spliced_cons (thn (h1.run pins s σ H _ I h) fun v s1 ⟨x, H1, I1, r1, q1⟩ => ?_)
  exact thn (h2 pos pins s1 σ H1 _ I1 q1) fun us s2 ⟨t2, xs, H2, I2, r2, q2⟩ => ⟨t2, x :: xs, H2, I2, .cons r1 r2, q2⟩
theorem peb_c {e : Expr} {es : List Expr} {t : TA} {p pos : Pos} {x : Str} {k j : Nat} {sp : Sp} {dvs : List V} (c : Cal X.prog X.w X.K X.mg X.base k x sp dvs) (hr : Room j X.A) (hk : k ≤ j) (hg : Gl X x) (ha : PAB X (e :: es) t) (hdb : (x == ("__debug__" : Str)) = false := by decide)
    (he : starEach (e :: es) X.env = (false, eval e X.env) :: starEach es X.env := by rfl) (hpl : (backTo pos (starEach es X.env)).any (·.1) = false := by rfl) : PEB X (.Call (.Name x p) (e :: es) [] pos) (tCall sp dvs E0 t) := by
  have ⟨f, fd, ps, ds, F, hm, kp, b, d⟩ := c.ex
  intro pins s σ H Q I h
  refine wpAny_Call_Name_kw (ld_glob I hg hm ?_ hdb)
  refine PySem.W.callWith_K (h₀ := X.base) I.ok.mod.kin kp (thn (ha pos pins s σ H _ I h) fun us s1 ⟨t1, vs, H1, I1, r, q⟩ => ⟨I1.kIn, ?_⟩) he hpl
  exact stays t1 (run_fn F (hr.mono hk) b d pass0 I1 r q) fun _ _ t2 q2 => ⟨t2, q2⟩
/-- x = e; behind it a token is out -/
theorem pss_setB {i : Nat} {x : Str} {e : Expr} {te : TE} {pos' pos : Pos} {rest : List Stmt} {u : TS} (hN : X.N.Nodup) (hi : X.N[i]? = some x) (hx : Loc X.env.scope x) (he : PEB X e te) (h2 : PSsT X rest u)
    (hs : swapsWith e (some (.Name x pos')) pos.line X.env = pure false := by rfl) (hf : X.fn x = true ∨ X.env.scope.names.lookup x = some .local := by first | exact .inl rfl | exact .inr rfl | assumption) :
    PSs X (.Assign [.Name x pos'] e pos :: rest) (tSeq (tAsg te (gName i)) u) := by
  refine ⟨fun pins s σ H D I h => ?_⟩
  refine wpAny_execs_cons (wpAny_Assign_Name (thn (he pins s σ H _ I h) fun v s1 ⟨t1, y, H1, I1, r1, q1⟩ => ?_) hs)
  refine stays t1 (store_ok (Q := fun _ s2 => ∃ σ2, Inv X pins σ2 H1 s2 ∧ u D σ2 H1) I1 hN hi hx r1 (fun s2 I2 => ⟨_, I2, q1⟩) hf) fun _ s2 t2 q2 => ?_
  obtain ⟨σ2, I2, q2⟩ := q2
  exact h2 pins s2 σ2 H1 D t2 I2 q2
/-! ### statements while a token is out -/
theorem pst_set {i : Nat} {x : Str} {e : Expr} {te : TE} {pos' pos : Pos} (hN : X.N.Nodup) (hi : X.N[i]? = some x) (hx : Loc X.env.scope x) (he : PET X e te) (hs : swapsWith e (some (.Name x pos')) pos.line X.env = pure false := by rfl) (hf : X.fn x = true ∨ X.env.scope.names.lookup x = some .local := by first | exact .inl rfl | exact .inr rfl | assumption) :
    PST X (.Assign [.Name x pos'] e pos) (tAsg te (gName i)) := by
  intro pins s σ H D t0 I h
  refine wpAny_Assign_Name (thn (he pins s σ H _ t0 I h) fun v s1 q => ?_) hs
  obtain ⟨y, H1, I1, r1, q1⟩ := q
  exact store_ok I1 hN hi hx r1 (fun s2 I2 => ⟨_, H1, I2, q1⟩) hf
def PTT (X : Cx) (e : Expr) (t : TT) : Prop := ∀ (pins : List (Addr × Obj)) (s : Shared) (σ : L2.St) (H : Hp) (Q : Bool → Hp → Prop), 1 ≤ s.toks → Inv X pins σ H s → t σ H Q → wpAny (model X.prog X.w) X.A (isTrue e X.env (eval e X.env)) (TP X pins σ Q) X.xe s
def PWT (X : Cx) (e : Expr) (t : TT) : Prop := ∀ (whole : Sem Value) (pins : List (Addr × Obj)) (s : Shared) (σ : L2.St) (H : Hp) (Q : Bool → Hp → Prop), 1 ≤ s.toks → Inv X pins σ H s → t σ H Q → wpAny (model X.prog X.w) X.A (isTrue e X.env whole) (TP X pins σ Q) X.xe s
theorem PTT.of {e : Expr} {t : TT} (h : PT X e t) : PTT X e t := fun pins s σ H Q _ I q => h.run pins s σ H Q I q
theorem pwt_or1 {a : Expr} {tA : TT} {pos : Pos} (ha : PTT X a tA) : PWT X (.BoolOp .Or [a] pos) tA := by
  intro wh pins s σ H Q t0 I h
  refine isTrue_or (thn (ha pins s σ H Q t0 I h) fun c s1 e => ?_)
  cases c with
  | true => exact e
  | false => exact isTrue_or_nil e
theorem pwt_or {a b : Expr} {rest : List Expr} {tA tB : TT} {pos : Pos} (ha : PTT X a tA) (hb : PWT X (.BoolOp .Or (b :: rest) pos) tB) : PWT X (.BoolOp .Or (a :: b :: rest) pos) (tOr tA tB) := by
  intro wh pins s σ H Q t0 I h
  refine isTrue_or (stays t0 (ha pins s σ H _ t0 I h) fun c s1 t1 q => ?_)
  obtain ⟨H1, I1, q1⟩ := q
  cases c with
  | false => exact hb wh pins s1 σ H1 Q t1 I1 q1
  | true => exact ⟨H1, I1, q1⟩
theorem ptt_cmpR {op : CmpOp} {r : R2} {a b : Expr} {ta tb : TE} {pos : Pos} (ho : OpR X (compareOp op) r) (ha : PET X a ta) (hb : PE X b tb) (hm : behindInMarks op b = false) : PTT X (.Compare a [op] [b] pos) (tTest (tOp r ta tb)) := by
  intro pins s σ H Q t0 I h
  refine wpAny_isTrue_Compare1 (thn (ha pins s σ H _ t0 I h) fun v s1 q => ?_) hm
  obtain ⟨x, H1, I1, r1, q1⟩ := q
  refine thn (hb.run pins s1 σ H1 _ I1 q1) fun u s2 q => ?_
  obtain ⟨y, H2, I2, r2, q2⟩ := q
  refine thn (ho pins s2 σ H2 x y v u _ I2 r1 r2 q2) fun c s3 q => ?_
  obtain ⟨z, H3, I3, r3, k, e, q3⟩ := q
  subst e
  cases r3
  exact wpAny_truthy_bool ⟨H3, I3, q3⟩
theorem pst_ifT {c : Expr} {a b : List Stmt} {tc : TT} {t u : TS} {pos : Pos} (hc : PWT X c tc) (ha : PSs X a t) (hb : PSs X b u) : PST X (.If c a b pos) (tIfS tc t u) := by
  intro pins s σ H D t0 I h
  refine wpAny_If (thn (hc _ pins s σ H _ t0 I h) fun d s1 q => ?_)
  obtain ⟨H1, I1, q1⟩ := q
  cases d with
  | true => exact ha.run pins s1 σ H1 D I1 q1
  | false => exact hb.run pins s1 σ H1 D I1 q1
theorem pct_x {W : WX} {E : XK} {e : Expr} {es : List Expr} {t : TA} {p pos : Pos} {x : Str} {k j : Nat} {sp : Sp} {dvs : List V} (c : CalX X.prog X.w X.K X.mg X.base k x sp dvs) (tk : Takes X W) (hE : ∀ cls d σ H, E cls d H → W cls d σ H) (hr : Room j X.A) (hk : k ≤ j) (hg : Gl X x) (ha : PAT X (e :: es) t) (hdb : (x == ("__debug__" : Str)) = false := by decide)
    (he : starEach (e :: es) X.env = (false, eval e X.env) :: starEach es X.env := by rfl) (hpl : (backTo pos (starEach es X.env)).any (·.1) = false := by rfl) : PET X (.Call (.Name x p) (e :: es) [] pos) (tCall sp dvs E t) := by
  have ⟨f, fd, ps, ds, F, hm, kp, b, d⟩ := c.ex
  intro pins s σ H Q t0 I h
  refine wpAny_Call_Name_kw (ld_glob I hg hm ?_ hdb)
  refine PySem.W.callWith_K (h₀ := X.base) I.ok.mod.kin kp (thn (ha pos pins s σ H _ t0 I h) fun us s1 q => ?_) he hpl
  obtain ⟨vs, H1, I1, r, q⟩ := q
  exact ⟨I1.kIn, run_fn F (hr.mono hk) b d (passes_call tk hE) I1 r q⟩
end
end Ls

/-! ### the head's facts of own exceptions with an __init__ -/
namespace Ls
open PySem PySem.Spec PyProof.Rows L2 NdefX He
def oexB (K : PySem.W.Frag) (C : Addr) : Bool := (match K.lookup C with
  | some ⟨.type t, _, .cls cd, sl⟩ => (t == "type") && (match cd.mro, sl.toList with
    | .ref C' :: bm, [_, _, _, _, some (.builtin n), _] => C' == C && (n == "ValueError.__new__" && (!cd.hasDel && (cd.hasDict && PySem.HandSPX.refsVE bm)))
    | _, _ => false)
  | _ => false) && (eqO (PySem.W.findIn K (.ref C) "__setattr__") (some (some (.builtin "object.__setattr__"))) && (decide (PySem.W.subIn K (.ref C) (.type "BaseException") = some true) && (decide (PySem.W.typeIn K (.ref C) = some (.type "type")) && PySem.W.keepIn K (.ref C))))
theorem oexB_ok {K : PySem.W.Frag} {C : Addr} (h : oexB K C = true) : OexC K C := by
  obtain ⟨h1, h2⟩ := ba h
  obtain ⟨h3, h4⟩ := ba h2
  obtain ⟨h5, h6⟩ := ba h4
  obtain ⟨h7, h8⟩ := ba h6
  refine ⟨?_, eqO_ok h3, of_decide_eq_true h5, of_decide_eq_true h7, h8⟩
  split at h1
  · rename_i t dd cd sl ho
    obtain ⟨ht, h1⟩ := ba h1
    split at h1
    · rename_i C' bm k0 k1 k2 k3 n k5 hm hs
      obtain ⟨e1, h1⟩ := ba h1
      obtain ⟨e2, h1⟩ := ba h1
      obtain ⟨e3, h1⟩ := ba h1
      obtain ⟨e4, e5⟩ := ba h1
      have e1 := eq_of_beq e1
      have e2 := eq_of_beq e2
      have ht := eq_of_beq ht
      have e3' : cd.hasDel = false := by simpa using e3
      clear e3
      have e3 := e3'
      clear e3'
      obtain ⟨nm, bs, mro, ns, qn, hd, sn, sub, ab, col, del⟩ := cd
      dsimp only at hm e3 e4
      subst hm e3 e4 e1 e2 ht
      have hsl : sl = #[k0, k1, k2, k3, some (.builtin "ValueError.__new__"), k5] := by
        obtain ⟨l⟩ := sl
        simp only at hs
        rw [hs]
      subst hsl
      exact ⟨nm, qn, ns, bs, bm, sn, sub, ab, col, dd, k0, k1, k2, k3, k5, ho, e5⟩
    · cases h1
  · cases h1
def excB (K : PySem.W.Frag) (D : Addr) : Bool := eqO (PySem.W.findIn K (.ref D) "__getattribute__") (some (some (.builtin "BaseException.__getattribute__"))) && (eqO (PySem.W.findIn K (.ref D) "__getattr__") (some none) && (decide (PySem.W.subIn K (.ref D) (.type "BaseException") = some true) &&
  (PySem.W.hasDictIn K D && (eqO (PySem.W.findIn K (.ref D) "__class__") (some (some (.builtin "object.__class__"))) && (eqO (PySem.W.specialIn K (.builtin "object.__class__") "__get__") (some (some (.builtin "getset_descriptor.__get__"))) &&
  (decide (PySem.W.takesIn K (.builtin "object.__class__") = some true) && decide (PySem.W.mroIn K D (.type "object") = some true)))))))
theorem excB_ok {K : PySem.W.Frag} {D : Addr} (h : excB K D = true) : ExcC K D := by
  obtain ⟨h1, h⟩ := ba h
  obtain ⟨h2, h⟩ := ba h
  obtain ⟨h3, h⟩ := ba h
  obtain ⟨h4, h⟩ := ba h
  obtain ⟨h5, h⟩ := ba h
  obtain ⟨h6, h⟩ := ba h
  obtain ⟨h7, h8⟩ := ba h
  exact ⟨eqO_ok h1, eqO_ok h2, of_decide_eq_true h3, h4, eqO_ok h5, eqO_ok h6, of_decide_eq_true h7, of_decide_eq_true h8⟩
theorem ExcC.xf {K : PySem.W.Frag} {D : Addr} (h : ExcC K D) : XfC K D := ⟨h.hg, h.hk, h.hs, h.hd⟩
/-! the __init__ -/
abbrev FnS : Type := Option (Str × Str × Arguments × FuncBody × Scope × Addr × List Str × Addr)
def fIn (K : PySem.W.Frag) (x : Str) : Addr := ma K (ga K x) "__init__"
def fnS (K : PySem.W.Frag) (x : Str) : FnS := match K.lookup (fIn K x) with
  | some ⟨_, _, .func fd, _⟩ => some (fd.name, fd.qualname, fd.params, fd.body, fd.scope, fd.globals, fd.closure.map (·.1), fd.builtins)
  | _ => none
structure SupD where
  cls : Str
  qual : Str
  params : Arguments
  body : List Stmt
  scope : Scope
def SupD.val (d : SupD) : FnS := some ("__init__", d.qual, d.params, .stmts d.body, d.scope, mainGlobals, ["__class__"], builtinsNs)
def ccOf (fd : FuncData) : Addr := match fd.closure with
  | [(_, c)] => c
  | _ => 0
def codOf (fd : FuncData) : Addr := match fd.code with
  | .ref c => c
  | _ => 0
def NF.ofD (d : SupD) (fd : FuncData) : NF := ⟨"__init__", d.qual, d.params, d.body, d.scope, [(("__class__" : Str), ccOf fd)], codOf fd⟩
def fileB (K : PySem.W.Frag) (c : Addr) (fl : Str) : Bool := match K.lookup c with
  | some ⟨_, _, .fields vs, _⟩ => (match (vs[2]? : Option Value) with
    | some (Value.str f _) => f == fl
    | _ => false)
  | _ => false
def cellB (K : PySem.W.Frag) (c C : Addr) : Bool := match K.lookup c with
  | some ⟨_, _, .cell (some (.ref D)), _⟩ => D == C
  | _ => false
def noneB (v : Value) : Bool := match v with
  | .none => true
  | _ => false
def refB (v : Value) : Bool := match v with
  | .ref _ => true
  | _ => false
def SupD.ok (K : PySem.W.Frag) (fl : Str) (d : SupD) : Bool := oexB K (ga K d.cls) && (eqO (PySem.W.findIn K (.ref (ga K d.cls)) "__init__") (some (some (.ref (fIn K d.cls)))) && (decide (PySem.W.typeIn K (.ref (fIn K d.cls)) = some (.type "function")) && ((match K.lookup (fIn K d.cls) with
  | some ⟨_, _, .func fd, _⟩ => noneB fd.defaults && (noneB fd.kwdefaults && (fd.annotations.isNone && (refB fd.code && (PySem.W.codeIn K fd.code d.qual && (cellB K (ccOf fd) (ga K d.cls) && fileB K (codOf fd) fl)))))
  | _ => false) && (eqO (PySem.W.nsIn K mainGlobals "super") (some none) && (eqO (PySem.W.nsIn K cStatics "thirdparty.any") (some none) && (eqO (PySem.W.ks_superIn K (ga K d.cls) (ga K d.cls) "__init__") (some (some (.builtin "ValueError.__init__"))) &&
  (decide (PySem.W.subIn K (.ref (ga K d.cls)) (.type "ValueError") = some true) && decide (PySem.W.mroIn K (ga K d.cls) (.ref (ga K d.cls)) = some true))))))))
theorem SupD.supC {P : Program} {K : PySem.W.Frag} {fl : Str} {d : SupD} (e : fnS K d.cls = d.val) (c : d.ok K fl = true) (hf : ((P.main.file : Str) == fl) = true) (ht : (P.main.scope.names.lookup ("super" : Str)).isSome = false) :
    ∃ (fd : FuncData) (cc cf : Addr), SupC P K (ga K d.cls) (fIn K d.cls) cc ⟨"__init__", d.qual, d.params, d.body, d.scope, [(("__class__" : Str), cc)], cf⟩ fd := by
  obtain ⟨c1, c⟩ := ba c
  obtain ⟨c2, c⟩ := ba c
  obtain ⟨c3, c⟩ := ba c
  obtain ⟨c4, c⟩ := ba c
  obtain ⟨c5, c⟩ := ba c
  obtain ⟨c6, c⟩ := ba c
  obtain ⟨c7, c⟩ := ba c
  obtain ⟨c8, c9⟩ := ba c
  unfold fnS at e
  cases q : K.lookup (fIn K d.cls) with
  | none => rw [q] at c4; cases c4
  | some o =>
    obtain ⟨oc, od, dt, osl⟩ := o
    rw [q] at c4 e
    cases dt with
    | func fd =>
      obtain ⟨n1, n2, n3, n4, n5, n6, n7, n8, n9, n10, n11, n12, n13, n14, n15⟩ := fd
      have e2 : (some (n1, n2, n3, n4, n5, n6, n7.map (·.1), n15) : FnS) = some (("__init__" : Str), d.qual, d.params, FuncBody.stmts d.body, d.scope, mainGlobals, ([("__class__" : Str)] : List Str), builtinsNs) := e
      simp only [Option.some.injEq, Prod.mk.injEq] at e2
      obtain ⟨h1, h2, h3, h4, h5, h6, h7, h8⟩ := e2
      subst h1 h2 h3 h4 h5 h6 h8
      have c4 : (noneB n8 && (noneB n9 && (n12.isNone && (refB n13 && (PySem.W.codeIn K n13 d.qual && (cellB K (ccOf ⟨"__init__", d.qual, d.params, .stmts d.body, d.scope, mainGlobals, n7, n8, n9, n10, n11, n12, n13, n14, builtinsNs⟩) (ga K d.cls) && fileB K (codOf ⟨"__init__", d.qual, d.params, .stmts d.body, d.scope, mainGlobals, n7, n8, n9, n10, n11, n12, n13, n14, builtinsNs⟩) fl)))))) = true := c4
      obtain ⟨g1, c4⟩ := ba c4
      obtain ⟨g2, c4⟩ := ba c4
      obtain ⟨g3, c4⟩ := ba c4
      obtain ⟨g4, c4⟩ := ba c4
      obtain ⟨g5, c4⟩ := ba c4
      obtain ⟨g6, g7⟩ := ba c4
      have z8 : n8 = .none := by cases n8 <;> first | rfl | cases g1
      have z9 : n9 = .none := by cases n9 <;> first | rfl | cases g2
      have z12 : n12 = none := by cases n12 <;> first | rfl | cases g3
      subst z8 z9 z12
      cases n13 with
      | ref cf =>
        cases n7 with
        | nil => cases h7
        | cons p r =>
          cases r with
          | cons _ _ => exact absurd (congrArg List.length h7) (by simp)
          | nil =>
            obtain ⟨pn, cc⟩ := p
            simp only [List.map_cons, List.map_nil, List.cons.injEq, and_true] at h7
            subst h7
            have g6 : cellB K cc (ga K d.cls) = true := g6
            have g7 : fileB K cf fl = true := g7
            refine ⟨_, cc, cf, oexB_ok c1, eqO_ok c2, of_decide_eq_true c3, ⟨oc, od, n10, n11, n14, osl, rfl, q⟩, g5, rfl, ?_, ?_, eqO_ok c5, ht, eqO_ok c6, eqO_ok c7, of_decide_eq_true c8, of_decide_eq_true c9⟩
            · unfold cellB at g6
              split at g6
              · rename_i cl cld D csl hl
                exact ⟨cl, cld, csl, by rw [hl, eq_of_beq g6]⟩
              · cases g6
            · unfold fileB at g7
              split at g7
              · rename_i cl cld vs csl hl
                split at g7
                · rename_i f tf hv
                  exact ⟨cl, cld, vs, csl, f, tf, hl, hv, by rw [eq_of_beq g7]; exact hf⟩
                · cases g7
              · cases g7
      | _ => cases g4
    | _ => cases c4
/-! the hook -/
inductive Fx where
  | exc (x : Str)
  | isi (x y : Str) (b : Bool)
  | isb (x : Str) (t : String) (b : Bool)
def Fx.ok (K : PySem.W.Frag) : Fx → Bool
  | .exc x => excB K (ga K x)
  | .isi x y b => decide (PySem.W.kitOne K (.ref (ga K x)) (.ref (ga K y)) = some b)
  | .isb x t b => decide (PySem.W.kitOne K (.ref (ga K x)) (.type t) = some b)
structure Hd where
  fa : List Fa
  fn : List DefD
  fx : List Fx
  su : List SupD
  file : Str
abbrev AlS : Type := AlD × Bool × List FnS
def obsS (d : Hd) (K : PySem.W.Frag) : AlS := (obsD d.fa d.fn K, (d.fx.all fun f => f.ok K) && (d.su.all fun u => u.ok K d.file), d.su.map fun u => fnS K u.cls)
def valS (d : Hd) : AlS := (valD d.fn, true, d.su.map SupD.val)
def asS (g : Addr → Option Obj) (n : Nat) : List Addr := asD g n ++ [cStatics]
def obsSG (n : Nat) (d : Hd) (g : Addr → Option Obj) : AlS := obsS d (frG g (asS g n))
def SaysS (d : Hd) (K : PySem.W.Frag) : Prop := obsS d K = valS d
def hookS (n : Nat) (d : Hd) : PySem.W.Hook where
  α := AlS
  obs := fun s => obsSG n d s.heap.get?
  val := fun _ => valS d
  says := fun _ h => ∃ K : PySem.W.Frag, K.In h ∧ SaysS d K
  of := fun _ _ e => ⟨_, frG_in, e⟩
  keeps := fun _ _ _ ⟨K, hK, c⟩ k => ⟨K, hK.keeps k, c⟩
theorem obsSG_eq {n : Nat} {d : Hd} {g : Addr → Option Obj} {s : Shared} (h : ∀ a, g a = s.heap.get? a) : obsSG n d g = (hookS n d).obs s := by
  rw [show g = s.heap.get? from funext h]; rfl
section
variable {d : Hd} {K : PySem.W.Frag}
theorem SaysS.d_ (c : SaysS d K) : SaysD d.fa d.fn K := congrArg (fun z : AlS => z.1) c
theorem SaysS.x (c : SaysS d K) (i : Nat) {f : Fx} (h : d.fx[i]? = some f := by rfl) : f.ok K = true :=
  List.all_eq_true.mp (ba (show ((d.fx.all fun f => f.ok K) && (d.su.all fun u => u.ok K d.file)) = true from congrArg (fun z : AlS => z.2.1) c)).1 f (List.mem_of_getElem? h)
theorem SaysS.u (c : SaysS d K) (i : Nat) {u : SupD} {P : Program} (hf : ((P.main.file : Str) == d.file) = true) (ht : (P.main.scope.names.lookup ("super" : Str)).isSome = false) (h : d.su[i]? = some u := by rfl) :
    ∃ (fd : FuncData) (cc cf : Addr), SupC P K (ga K u.cls) (fIn K u.cls) cc ⟨"__init__", u.qual, u.params, u.body, u.scope, [(("__class__" : Str), cc)], cf⟩ fd := by
  have c2 := List.all_eq_true.mp (ba (show ((d.fx.all fun f => f.ok K) && (d.su.all fun u => u.ok K d.file)) = true from congrArg (fun z : AlS => z.2.1) c)).2 u (List.mem_of_getElem? h)
  have e : d.su.map (fun u => fnS K u.cls) = d.su.map SupD.val := congrArg (fun z : AlS => z.2.2) c
  have e2 : (d.su.map fun u => fnS K u.cls)[i]? = (d.su.map SupD.val)[i]? := by rw [e]
  rw [List.getElem?_map, List.getElem?_map, h] at e2
  exact SupD.supC (Option.some.inj e2) c2 hf ht
end
end Ls

namespace Ls
open PySem PySem.Spec PyProof.Rows L2 NdefX
section
variable {P : Program} {w : World} {K : PySem.W.Frag} {mg : Str → Option Value} {base : Heap} {F : NF} {C f cc : Addr} {fd : FuncData}
/-- super().__init__(text); self.fld = arg -/
theorem ok_exc1 (U : SupC P K C f cc F fd) {p0 p1 p2 p3 p4 p5 q0 q1 q2 q3 : Pos} {txt fld arg : Str} {kd : Nat}
    (hbd : F.body = [.Expr (.Call (.Attribute (.Call (.Name "super" p0) [] [] p1) "__init__" p2) [.Constant (.str txt) kd p5] [] p3) p4, .Assign [.Attribute (.Name "self" q0) fld q1] (.Name arg q2) q3])
    (S : NScope ["self", arg, "__class__"] ["self", arg] ["__class__"] F.scope)
    {ar : Arg} (har : (F.params.posonlyargs ++ F.params.args).head? = some ar) (har1 : ar.arg = "self") (hks : F.scope.names.lookup ("super" : Str) = some .globalImplicit)
    (hcall : ∀ L, ∃ pl, eval (.Call (.Attribute (.Call (.Name "super" p0) [] [] p1) "__init__" p2) [.Constant (.str txt) kd p5] [] p3) (envF F f L) = (do
      let ov ← attributeBase (.Call (.Name "super" p0) [] [] p1) "__init__" (envF F f L) (eval (.Call (.Name "super" p0) [] [] p1) (envF F f L))
      standAt p2.atName
      let (fx, first) ← holding [ov] (getMethod ov "__init__" pl)
      callWith p3 fx first (backTo p3 (starEach [.Constant (.str txt) kd p5] (envF F f L))) []))
    (hint : ∀ L, interactive (envF F f L) = false) (hsw : ∀ L, swapsWith (.Call (.Attribute (.Call (.Name "super" p0) [] [] p1) "__init__" p2) [.Constant (.str txt) kd p5] [] p3) none p4.line (envF F f L) = pure false)
    (hsw2 : ∀ L, swapsWith (.Name arg q2) (some (.Attribute (.Name "self" q0) fld q1)) q3.line (envF F f L) = pure false)
    (hd1 : (arg == ("__debug__" : Str)) = false) (hd2 : (arg == ("__classdict__" : Str)) = false) (no : PySem.W.findIn K (.ref C) fld = some none) : FnOk P w K mg base CX0 1 f fd ["self", arg] (spExc1 C fld) := by
  refine fn_sup (k := 0) (ps := [arg]) (N := ["self", arg, "__class__"]) U hbd S har har1 hks hcall hint hsw (fun vs H Q E h => ?_) (fun vs H Q E h => ?_) (fun A outer s H vs Q E hr h => ?_)
  · obtain ⟨a, v, rfl, _⟩ := h
    rfl
  · obtain ⟨a, v, rfl, ha, _⟩ := h
    exact ⟨a, _, rfl, ha⟩
  · obtain ⟨a, v, rfl, ha, hk⟩ := h
    refine ⟨tOst K fld (tVar 0) (tVar 1), pss_one (ps_ost (pe_var (i := 0) rfl (.inl (S.par _ (by simp))) (by decide) (by decide)) (pe_var (i := 1) rfl (.inl (S.par _ (by simp))) hd1 hd2) (hsw2 _)), ?_⟩
    exact ⟨v, rfl, .ref a, rfl, a, C, rfl, U.oex, no, .inl ⟨ha, fun dx hn hne => hk dx hn hne⟩⟩
end
end Ls
namespace Ls
open PySem PySem.Spec PyProof.Rows L2
/-! enumerate(x), x a local that holds a list or a tuple -/
def iEnumV (K : PySem.W.Frag) (i : Nat) : TI := fun σ H R => ∃ a xs J, σ[i]? = some (some (.ref a)) ∧ ((SqL K H a xs ∧ J = Ite K a) ∨ (SqT K H a xs ∧ J = IteT K a)) ∧ R J H
theorem kpi_enumV {X : Cx} {K : PySem.W.Frag} {i : Nat} {x : Str} {p pos p2 tpos : Pos} {elts : List Expr} {kk : Nat} (hg : Gl X "enumerate") (hm : X.mg "enumerate" = none) (ha : PE X (.Name x p2) (tVar i)) (h : X.K = K := by rfl)
    (hs : starEach [.Name x p2] X.env = [(false, eval (.Name x p2) X.env)] := by rfl) : PI X (.Tuple elts kk tpos) (.Call (.Name "enumerate" p) [.Name x p2] [] pos) (iEnumV K i) := by
  subst h
  refine ⟨fun pins s σ H R I q => ?_⟩
  obtain ⟨a, xs, J, hσ, hj, r⟩ := q
  rcases hj with ⟨hx, rfl⟩ | ⟨hx, rfl⟩
  · exact (pi_enum hg hm (pa_cons ha pa_nil hs) hs).run pins s σ H R I ⟨.ref a, hσ, a, xs, rfl, hx, r⟩
  · exact (pi_enumT hg hm (pa_cons ha pa_nil hs) hs).run pins s σ H R I ⟨.ref a, hσ, a, xs, rfl, hx, r⟩
/-- the walk of either -/
theorem enumV {K : PySem.W.Frag} {H : Hp} {a : Addr} {xs : List V} (h : H a = some (.tup xs) ∨ H a = some (.lst xs)) :
    ∃ (J : It) (Gd : Hp → Prop), (∀ H', Same H H' → (SqL K H' a xs ∧ J = Ite K a) ∨ (SqT K H' a xs ∧ J = IteT K a)) ∧ Walk J xs.length Gd (YPair (fun i => some (.int (i : Nat))) (fun i => xs[i]?)) ∧ ∀ H', Same H H' → Gd H' :=
  h.elim (fun h => ⟨_, _, fun H' s => .inr ⟨sqt (s _ _ h), rfl⟩, walk_enumT, fun H' s => sqt (s _ _ h)⟩) fun h => ⟨_, _, fun H' s => .inl ⟨sq (s _ _ h), rfl⟩, walk_enum, fun H' s => sq (s _ _ h)⟩
end Ls
namespace Ls
open PySem PySem.Spec PyProof.Rows L2
theorem pe_c0 {X : Cx} {x : Str} {k j : Nat} {sp : Sp} {dvs : List V} {p pos : Pos} (c : Cal X.prog X.w X.K X.mg X.base k x sp dvs) (hr : Room j X.A) (hk : k ≤ j) (hg : Gl X x) (hdb : (x == ("__debug__" : Str)) = false := by decide) : PE X (.Call (.Name x p) [] [] pos) (tCall sp dvs E0 tNil) := by
  have ⟨f, fd, ps, ds, F, hm, kp, b, d⟩ := c.ex
  exact pe_call0 F (hr.mono hk) hg hm kp b d pass0 hdb
end Ls
namespace Ls
open PySem PySem.Spec PyProof.Rows L2
/-! a for whose body's reading hangs on its ends (a try within): kept whole -/
def ForOk (J : It) (g : TG) (tb : TS) (D : Ends) (σ : L2.St) (H1 : Hp) : Prop := tFor (fun _ _ R => R J H1) g tb D σ H1
theorem tFor_ok {wi : TI} {g : TG} {tb : TS} {D : Ends} {σ : L2.St} {H : Hp} (h : wi σ H fun J H1 => ForOk J g tb D σ H1) : tFor wi g tb D σ H := h
theorem for_ok {J : It} {n : Nat} {G : Hp → Prop} {Y : Nat → Hp → V → Hp → Prop} (w : Walk J n G Y) {g : TG} {tb : TS} {D : Ends} {σ : L2.St} {H : Hp} (Pv : Nat → L2.St → Hp → Prop) (h0 : Pv 0 σ H) (hG : ∀ i σ H, i ≤ n → Pv i σ H → G H)
    (hs : ∀ i x σ H H', i < n → Pv i σ H → Y i H x H' → g x σ H' fun σ2 H2 => tb { D with nx := Pv (i + 1), ct := Pv (i + 1), bk := D.nx } σ2 H2) (hd : ∀ σ H, Pv n σ H → D.nx σ H) : ForOk J g tb D σ H :=
  for_it w Pv h0 hG hs hd
end Ls

/-! ### an own error with two fields: super().__init__(text); self.f1 = arg1; self.f2 = arg2 -/
namespace Ls
open PySem PySem.Spec PyProof.Rows L2 NdefX
def spExc2 (C : Addr) (f1 f2 : Str) : Sp := fun vs H Q _ => ∃ a v1 v2, vs = [.ref a, v1, v2] ∧ H a = some (exo a C none) ∧ ∀ dx, H dx = none → dx ≠ a → Q .non (upd (upd (upd H dx (exd dx [(f1, v1)])) a (exo a C (some dx))) dx (exd dx [(f2, v2), (f1, v1)]))
structure ExcS2 (P : Program) (w : World) (K : PySem.W.Frag) (mg : Str → Option Value) (base : Heap) (x : Str) (C : Addr) (f1 f2 : Str) : Prop where
  oex : OexC K C
  no1 : PySem.W.findIn K (.ref C) f1 = some none
  no2 : PySem.W.findIn K (.ref C) f2 = some none
  xf : XfC K C
  gC : mg x = some (.ref C)
  ex : ∃ (fI : Addr) (fd : FuncData) (ps : List Str), PySem.W.findIn K (.ref C) "__init__" = some (some (.ref fI)) ∧ PySem.W.typeIn K (.ref fI) = some (.type "function") ∧ FnOk P w K mg base CX0 1 fI fd ps (spExc2 C f1 f2) ∧ Binds K fd ps []
def tMk2 (C : Addr) (f1 f2 : Str) (te1 te2 : TE) : L2.St → Hp → XK → Prop := tMkO C (spExc2 C f1 f2) [] (tCons te1 (tCons te2 tNil))
theorem mk2 {C : Addr} {f1 f2 : Str} {v1 v2 : V} {H1 : Hp} {Q : XK} (h : ∀ d H2, Same H1 H2 → H1 d = none → H2 d = some (.xd [(f2, v2), (f1, v1)]) → Q (.ref C) (some d) H2) :
    [v1, v2].length ≤ 1000 ∧ ∀ a, H1 a = none → spExc2 C f1 f2 (.ref a :: ([v1, v2] ++ [])) (upd H1 a (exo a C none)) (fun u H2 => u = .non ∧ ∃ (d : Addr) (fs : List (Str × V)), H2 a = some (exo a C (some d)) ∧ H2 d = some (exd d fs) ∧ H1 d = none ∧ Q (.ref C) (some d) (upd (del H2 a) d (.xd fs))) (fun _ _ _ => False) := by
  refine ⟨by show 2 ≤ 1000; decide, fun a ha => ⟨a, v1, v2, rfl, upd_same, fun dx hn hne => ⟨rfl, dx, [(f2, v2), (f1, v1)], ?_, upd_same, ?_, ?_⟩⟩⟩
  · rw [upd_ne (Ne.symm hne), upd_same]
  · rw [upd_ne hne] at hn; exact hn
  · have hn' : H1 dx = none := by rw [upd_ne hne] at hn; exact hn
    refine h dx _ (fun b o e => ?_) hn' upd_same
    have n1 : b ≠ a := ne_of_none e ha
    have n2 : b ≠ dx := ne_of_none e hn'
    rw [upd_ne n2, del_ne n1, upd_ne n2, upd_ne n1, upd_ne n2, upd_ne n1]
    exact e
section
variable {X : Cx} {x f1 f2 : Str} {C : Addr} {j : Nat} {e e2 : Expr} {te te2 : TE} {p pos : Pos}
theorem pmk_sup2 (U : ExcS2 X.prog X.w X.K X.mg X.base x C f1 f2) (hr : Room j X.A) (hj : 2 ≤ j) (hg : Gl X x) (he : PE X e te) (he2 : PE X e2 te2) (hdb : (x == ("__debug__" : Str)) = false := by decide)
    (hs : starEach [e, e2] X.env = (false, eval e X.env) :: starEach [e2] X.env := by rfl) (hs2 : starEach [e2] X.env = (false, eval e2 X.env) :: starEach [] X.env := by rfl) (hpl : (backTo pos (starEach [e2] X.env)).any (·.1) = false := by rfl) : PMk X (.Call (.Name x p) [e, e2] [] pos) (tMk2 C f1 f2 te te2) := by
  obtain ⟨fI, fd, ps, h1, h2, F1, hb⟩ := U.ex
  exact pmk_oex (dvs := []) (ds := []) (e := e) (es := [e2]) (p := p) (pos := pos) U.oex h1 h2 F1 (hr.mono hj) hb .nil pass0 hg U.gC (pa_cons he (pa_cons he2 pa_nil hs2) hs) hdb hs hpl
end
section
variable {P : Program} {w : World} {K : PySem.W.Frag} {mg : Str → Option Value} {base : Heap} {F : NF} {C f cc : Addr} {fd : FuncData}
theorem ok_exc2 (U : SupC P K C f cc F fd) {p0 p1 p2 p3 p4 p5 q0 q1 q2 q3 r0 r1 r2 r3 : Pos} {txt fld arg fld2 arg2 : Str} {kd : Nat}
    (hbd : F.body = [.Expr (.Call (.Attribute (.Call (.Name "super" p0) [] [] p1) "__init__" p2) [.Constant (.str txt) kd p5] [] p3) p4, .Assign [.Attribute (.Name "self" q0) fld q1] (.Name arg q2) q3, .Assign [.Attribute (.Name "self" r0) fld2 r1] (.Name arg2 r2) r3])
    (S : NScope ["self", arg, arg2, "__class__"] ["self", arg, arg2] ["__class__"] F.scope)
    {ar : Arg} (har : (F.params.posonlyargs ++ F.params.args).head? = some ar) (har1 : ar.arg = "self") (hks : F.scope.names.lookup ("super" : Str) = some .globalImplicit)
    (hcall : ∀ L, ∃ pl, eval (.Call (.Attribute (.Call (.Name "super" p0) [] [] p1) "__init__" p2) [.Constant (.str txt) kd p5] [] p3) (envF F f L) = (do
      let ov ← attributeBase (.Call (.Name "super" p0) [] [] p1) "__init__" (envF F f L) (eval (.Call (.Name "super" p0) [] [] p1) (envF F f L))
      standAt p2.atName
      let (fx, first) ← holding [ov] (getMethod ov "__init__" pl)
      callWith p3 fx first (backTo p3 (starEach [.Constant (.str txt) kd p5] (envF F f L))) []))
    (hint : ∀ L, interactive (envF F f L) = false) (hsw : ∀ L, swapsWith (.Call (.Attribute (.Call (.Name "super" p0) [] [] p1) "__init__" p2) [.Constant (.str txt) kd p5] [] p3) none p4.line (envF F f L) = pure false)
    (hsw2 : ∀ L, swapsWith (.Name arg q2) (some (.Attribute (.Name "self" q0) fld q1)) q3.line (envF F f L) = pure false)
    (hsw3 : ∀ L, swapsWith (.Name arg2 r2) (some (.Attribute (.Name "self" r0) fld2 r1)) r3.line (envF F f L) = pure false)
    (hd1 : (arg == ("__debug__" : Str)) = false) (hd2 : (arg == ("__classdict__" : Str)) = false) (hd3 : (arg2 == ("__debug__" : Str)) = false) (hd4 : (arg2 == ("__classdict__" : Str)) = false) (no : PySem.W.findIn K (.ref C) fld = some none) (no2 : PySem.W.findIn K (.ref C) fld2 = some none) : FnOk P w K mg base CX0 1 f fd ["self", arg, arg2] (spExc2 C fld fld2) := by
  refine fn_sup (k := 0) (ps := [arg, arg2]) (N := ["self", arg, arg2, "__class__"]) U hbd S har har1 hks hcall hint hsw (fun vs H Q E h => ?_) (fun vs H Q E h => ?_) (fun A outer s H vs Q E hr h => ?_)
  · obtain ⟨a, v, v2, rfl, _⟩ := h
    rfl
  · obtain ⟨a, v, v2, rfl, ha, _⟩ := h
    exact ⟨a, _, rfl, ha⟩
  · obtain ⟨a, v, v2, rfl, ha, hk⟩ := h
    refine ⟨_, pss_cons (ps_ost (pe_var (i := 0) rfl (.inl (S.par _ (by simp))) (by decide) (by decide)) (pe_var (i := 1) rfl (.inl (S.par _ (by simp))) hd1 hd2) (hsw2 _)) (pss_one (ps_ost (pe_var (i := 0) rfl (.inl (S.par _ (by simp))) (by decide) (by decide)) (pe_var (i := 2) rfl (.inl (S.par _ (by simp))) hd3 hd4) (hsw3 _))), ?_⟩
    refine ⟨v, rfl, .ref a, rfl, a, C, rfl, U.oex, no, .inl ⟨ha, fun dx hn hne => ?_⟩⟩
    refine ⟨v2, rfl, .ref a, rfl, a, C, rfl, U.oex, no2, .inr ⟨dx, [(fld, v)], upd_same, ?_, by show 1 ≤ 900; decide, ?_⟩⟩
    · rw [upd_ne hne, upd_same]
    · exact hk dx hn hne
end
end Ls

/-! ### expressions that are data -/
namespace Ls
open PySem PySem.Spec PyProof.Rows L2
def rGetL (K : PySem.W.Frag) : R2 := fun x y H Q => ∃ p xs i v, x = .ref p ∧ y = .int i ∧ 0 ≤ i ∧ SqL K H p xs ∧ atI xs i = some v ∧ Q v H
theorem get_list {X : Cx} {K : PySem.W.Frag} (hK : X.K = K := by rfl) : PGet X (rGetL K) := by
  subst hK
  intro pins s σ H x y v u Q I rx ry h
  obtain ⟨p, xs, i, z, rfl, rfl, h0, hq, he, q⟩ := h
  cases rx
  obtain ⟨t, rfl⟩ := ry
  obtain ⟨its, r, pl, hz⟩ := I.list hq
  obtain ⟨j, h1, h2, h3, h4, h5⟩ := atI_get he
  obtain ⟨w, ew, rw'⟩ := r.get h2
  have hn := line63
  have hl := r.length
  have hj : i.toNat = j := by
    rw [seqIndex_of h0 h5] at h1
    exact Option.some.inj h1
  exact wpAny_getItem_list pl.isList h0 (by omega) (by rw [hj]; simpa using ew) ⟨z, H, I, rw', q⟩
structure EnvD (sl : Nat) (N : Addr → Prop) (Γ : List (Nat × PyData)) (σ : L2.St) (H : Hp) : Prop where
  v : ∀ p ∈ Γ, ∃ v, σ[p.1]? = some (some v) ∧ Dt N H v p.2
  n : ∀ a, H a = none → N a
  l : sl ≤ σ.length
theorem EnvD.mono {sl : Nat} {N : Addr → Prop} {Γ : List (Nat × PyData)} {σ : L2.St} {H H' : Hp} (h : EnvD sl N Γ σ H) (s : Same H H') : EnvD sl N Γ σ H' :=
  ⟨fun p hp => by obtain ⟨v, e, d⟩ := h.v p hp; exact ⟨v, e, d.mono s⟩, fun a e => h.n a (s.free e), h.l⟩
def tD (sl : Nat) (N : Addr → Prop) (Γ : List (Nat × PyData)) (d : PyData) : TE := fun σ H Q => EnvD sl N Γ σ H ∧ ∀ v H', Same H H' → Dt N H' v d → Q v H'
def tDs (sl : Nat) (N : Addr → Prop) (Γ : List (Nat × PyData)) (ds : List PyData) : TA := fun σ H Q => EnvD sl N Γ σ H ∧ ∀ vs H', Same H H' → DtAll N H' vs ds → Q vs H'
section
variable {X : Cx} {e e2 : Expr} {es : List Expr} {t t' : TE} {ta ta' : TA}
theorem pe_weak (h : PE X e t) (k : ∀ σ H Q, t' σ H Q → t σ H Q) : PE X e t' := ⟨fun pins s σ H Q I q => h.run pins s σ H Q I (k _ _ _ q)⟩
theorem pa_weak (h : PA X es ta) (k : ∀ σ H Q, ta' σ H Q → ta σ H Q) : PA X es ta' := ⟨fun pos pins s σ H Q I q => h.run pos pins s σ H Q I (k _ _ _ q)⟩
variable {sl : Nat} {N : Addr → Prop} {Γ : List (Nat × PyData)} {d d2 : PyData} {ds ds2 : List PyData}
theorem de_c {v : V} (h : PE X e (tC v)) (hd : ∀ H, Dt N H v d) : PE X e (tD sl N Γ d) := pe_weak h fun σ H Q q => q.2 v H (Same.refl H) (hd H)
theorem de_non {j pos} : PE X (.Constant .none j pos) (tD sl N Γ .none) := de_c pe_non fun H => .non
theorem de_bl {b j pos} : PE X (.Constant (.bool b) j pos) (tD sl N Γ (.bool b)) := de_c pe_bl fun H => .bl b
theorem de_int {i j pos} : PE X (.Constant (.int i) j pos) (tD sl N Γ (.int i)) := de_c pe_int fun H => .int i
theorem de_str {x j pos} (h : (decide (x.length ≤ 1000) && PySem.PyData.strOk x) = true) : PE X (.Constant (.str x) j pos) (tD sl N Γ (.str x)) := de_c pe_str fun H => .str ⟨of_decide_eq_true (Bool.and_eq_true_iff.mp h).1, (Bool.and_eq_true_iff.mp h).2⟩
theorem de_neg {i j pos pos'} : PE X (.UnaryOp .USub (.Constant (.int i) j pos) pos') (tD sl N Γ (.int (-i))) := pe_weak (pe_un un_neg pe_int) fun σ H Q q => ⟨i, rfl, q.2 _ H (Same.refl H) (.int _)⟩
theorem de_var (i : Nat) (h : PE X e (tVar i)) (m : (i, d) ∈ Γ) : PE X e (tD sl N Γ d) := pe_weak h fun σ H Q q => by
  obtain ⟨v, e, hd⟩ := q.1.v _ m
  exact ⟨v, e, q.2 v H (Same.refl H) hd⟩
theorem das_nil : PA X [] (tDs sl N Γ []) := pa_weak pa_nil fun σ H Q q => q.2 [] H (Same.refl H) .nil
theorem das_cons (h1 : PE X e (tD sl N Γ d)) (h2 : PA X es (tDs sl N Γ ds)) (hs : starEach (e :: es) X.env = (false, eval e X.env) :: starEach es X.env := by rfl) : PA X (e :: es) (tDs sl N Γ (d :: ds)) :=
  pa_weak (pa_cons h1 h2 hs) fun σ H Q q => ⟨q.1, fun v H1 s1 hd => ⟨q.1.mono s1, fun vs H2 s2 hds => q.2 _ H2 (s1.trans s2) (.cons (hd.mono s2) hds)⟩⟩
theorem szD {vs : List V} {H : Hp} (h : DtAll N H vs ds) (l : ds.length ≤ 1000) : vs.length ≤ sizeLine := by
  rw [h.len]
  have : 1000 ≤ sizeLine := by decide
  omega
theorem de_tup {k pos} (h : PA X es (tDs sl N Γ ds)) (l : ds.length ≤ 1000) : PE X (.Tuple es k pos) (tD sl N Γ (.tuple ds)) :=
  pe_weak (pe_tup h) fun σ H Q q => ⟨q.1, fun vs H1 s1 hds => ⟨szD hds l, fun p np => q.2 _ _ (s1.trans (same_upd np)) (.tup ⟨q.1.n p (s1.free np), l⟩ upd_same (hds.mono (same_upd np)))⟩⟩
theorem de_lst {pos} (h : PA X es (tDs sl N Γ ds)) (l : ds.length ≤ 1000) : PE X (.List es pos) (tD sl N Γ (.list ds)) :=
  pe_weak (pe_lst h) fun σ H Q q => ⟨q.1, fun vs H1 s1 hds => ⟨szD hds l, fun p np => q.2 _ _ (s1.trans (same_upd np)) (.lst ⟨q.1.n p (s1.free np), l⟩ upd_same (hds.mono (same_upd np)))⟩⟩
theorem dtall_rep {H : Hp} {vs : List V} (h : DtAll N H vs ds) : ∀ n : Nat, DtAll N H (List.replicate n vs).flatten (List.replicate n ds).flatten
  | 0 => .nil
  | n + 1 => by
    rw [List.replicate_succ, List.replicate_succ, List.flatten_cons, List.flatten_cons]
    exact h.app (dtall_rep h n)
theorem de_rep {k : Int} {pos} {K : PySem.W.Frag} (h1 : PE X e (tD sl N Γ (.tuple ds))) (h2 : PE X e2 (tC (.int k))) (c : (decide (ds ≠ []) && (decide (2 ≤ k) && (decide (k ≤ 1000) && (decide (ds.length ≤ 1000) && decide ((List.replicate k.toNat ds).flatten.length ≤ 1000))))) = true) (hK : X.K = K := by rfl) : PE X (.BinOp e .Mult e2 pos) (tD sl N Γ (.tuple (List.replicate k.toNat ds).flatten)) :=
  pe_weak (pe_op op_repT h1 h2) fun σ H Q q => ⟨q.1, fun v H1 s1 hd => by
    simp only [Bool.and_eq_true, decide_eq_true_eq] at c
    obtain ⟨c1, c2, c3, c4, c5⟩ := c
    cases hd with
    | @tup a xs _ n e h =>
      have hl := h.len
      refine ⟨a, k, xs, rfl, rfl, sqt e, fun z => c1 (by rw [z] at hl; exact List.eq_nil_of_length_eq_zero hl.symm), c2, c3, by omega, fun p np => q.2 _ _ (s1.trans (same_upd np)) (.tup ⟨q.1.n p (s1.free np), c5⟩ upd_same ((dtall_rep h _).mono (same_upd np)))⟩⟩
theorem de_cat {pos} (h1 : PE X e (tD sl N Γ (.tuple ds))) (h2 : PE X e2 (tD sl N Γ (.tuple ds2))) (l : (ds ++ ds2).length ≤ 1000) : PE X (.BinOp e .Add e2 pos) (tD sl N Γ (.tuple (ds ++ ds2))) :=
  pe_weak (pe_op kCatT h1 h2) fun σ H Q q => ⟨q.1, fun v H1 s1 hd => ⟨q.1.mono s1, fun v2 H2 s2 hd2 => by
    cases hd with
    | @tup a xs _ n e h =>
      cases hd2 with
      | @tup b ys _ n2 e2 h2 =>
        have h' := h.mono s2
        have hl := h.len
        have hl2 := h2.len
        rw [List.length_append] at l
        have s : 1000 ≤ sizeLine := by decide
        refine ⟨a, b, xs, ys, rfl, rfl, s2 _ _ e, e2, by omega, fun H' p s' hp e' => q.2 _ _ (s1.trans (s2.trans s')) (.tup ⟨?_, by rw [List.length_append]; exact l⟩ e' ((h'.app h2).mono s'))⟩
        rcases hp with hp | rfl | rfl
        · exact q.1.n p ((s1.trans s2).free hp)
        · exact n.1
        · exact n2.1⟩⟩
theorem de_list {K : PySem.W.Frag} {x p pos} (h : PE X (.Call (.Name x p) [e] [] pos) (tCB (rListQ K) (tCons (tD sl N Γ (.tuple ds)) tNil))) (l : ds.length ≤ 1000) : PE X (.Call (.Name x p) [e] [] pos) (tD sl N Γ (.list ds)) :=
  pe_weak h fun σ H Q q => ⟨q.1, fun v H1 s1 hd => by
    cases hd with
    | @tup a xs _ n e h => exact ⟨a, xs, rfl, .inr (sqt e), fun l' nl => q.2 _ _ (s1.trans (same_upd nl)) (.lst ⟨q.1.n _ (s1.free nl), l⟩ upd_same (h.mono (same_upd nl)))⟩⟩
theorem dN (sl : Nat) (N : Addr → Prop) (Γ : List (Nat × PyData)) (h : PE X e (tD sl N Γ d)) : PE X e (tD sl N Γ d) := h
theorem de_cut {d' : PyData} (h : PE X e (tD sl N Γ d)) (hd : d = d') : PE X e (tD sl N Γ d') := hd ▸ h
theorem de_tuple {x p pos} (h : PE X (.Call (.Name x p) [e] [] pos) (tCB rTupQ (tCons (tD sl N Γ (.list ds)) tNil))) : PE X (.Call (.Name x p) [e] [] pos) (tD sl N Γ (.tuple ds)) :=
  pe_weak h fun σ H Q q => ⟨q.1, fun v H1 s1 hd => by
    cases hd with
    | @lst a xs _ n e h => exact ⟨a, xs, rfl, .inl e, fun H' l' s' hl e' => q.2 _ _ (s1.trans s') (.tup ⟨by
        rcases hl with hl | rfl
        · exact q.1.n _ (s1.free hl)
        · exact n.1, n.2⟩ e' (h.mono s'))⟩⟩
theorem de_catL {pos} (h1 : PE X e (tD sl N Γ (.list ds))) (h2 : PE X e2 (tD sl N Γ (.list ds2))) (l : (ds ++ ds2).length ≤ 1000) : PE X (.BinOp e .Add e2 pos) (tD sl N Γ (.list (ds ++ ds2))) :=
  pe_weak (pe_op op_cat h1 h2) fun σ H Q q => ⟨q.1, fun v H1 s1 hd => ⟨q.1.mono s1, fun v2 H2 s2 hd2 => by
    cases hd with
    | @lst a xs _ n e h =>
      cases hd2 with
      | @lst b ys _ n2 e2 h2 =>
        have h' := h.mono s2
        have hl := h.len
        have hl2 := h2.len
        rw [List.length_append] at l
        have s : 1000 ≤ sizeLine := by decide
        exact ⟨a, b, xs, ys, rfl, rfl, s2 _ _ e, e2, by omega, fun p hp => q.2 _ _ ((s1.trans s2).trans (same_upd hp)) (.lst ⟨q.1.n p ((s1.trans s2).free hp), by rw [List.length_append]; exact l⟩ upd_same ((h'.app h2).mono (same_upd hp)))⟩⟩⟩
/-- f(), a new list of data -/
def spBadL (ds : List PyData) : Sp := fun vs H Q _ => ∃ (N : Addr → Prop), vs = [] ∧ (∀ a, H a = none → N a) ∧ ∀ H' l xs, Same H H' → H l = none → H' l = some (.lst xs) → DtAll N H' xs ds → Q (.ref l) H'
theorem de_call (h : PE X e (tCall (spBadL ds) [] E0 tNil)) (l : ds.length ≤ 1000) : PE X e (tD sl N Γ (.list ds)) :=
  pe_weak h fun σ H Q q => ⟨N, rfl, q.1.n, fun H' a xs s na e hx => q.2 _ _ s (.lst ⟨q.1.n _ na, l⟩ e hx)⟩
def tXp (sl : Nat) {α : Type} (Γ : α → List (Nat × PyData)) (d : α → PyData) : TE := fun σ H Q => ∃ N x, tD sl N (Γ x) (d x) σ H Q
theorem de_x {α : Type} {Γ : α → List (Nat × PyData)} {d : α → PyData} (h : ∀ N x, PE X e (tD sl N (Γ x) (d x))) : PE X e (tXp sl Γ d) := ⟨fun pins s σ H Q I ⟨N, x, q⟩ => (h N x).run pins s σ H Q I q⟩
theorem EnvD.offD {σ : L2.St} {H H' : Hp} {D : Addr} {o : HO} (h : EnvD sl N Γ σ H) (nD : H D = none) (s : Same H H') (hD : H' D = some o) : EnvD sl (fun b => N b ∧ b ≠ D) Γ σ H' :=
  ⟨fun p hp => by
    obtain ⟨u, e, g⟩ := h.v p hp
    exact ⟨u, e, (g.off nD).mono s⟩, fun a ha => ⟨h.n a (s.free ha), fun z => by rw [z, hD] at ha; cases ha⟩, h.l⟩
theorem EnvD.wiped {σ : L2.St} {H : Hp} {i : Nat} {v : V} (h : EnvD sl N Γ σ H) (hi : (Γ.all fun p => decide (p.1 ≠ i)) = true) (hl : i < sl) (hv : Dt N H v d) : EnvD sl N ((i, d) :: Γ) ((wipe σ [i]).set i (some v)) H :=
  ⟨fun p hp => by
    rcases List.mem_cons.mp hp with rfl | hp
    · exact ⟨v, by have := h.l; simp [wipe, show i < σ.length by omega], hv⟩
    · obtain ⟨u, e, g⟩ := h.v p hp
      have hne : p.1 ≠ i := of_decide_eq_true (List.all_eq_true.mp hi p hp)
      exact ⟨u, by simp [wipe, List.getElem?_set, Ne.symm hne, e], g⟩, h.n, by have := h.l; simpa [wipe] using this⟩
/-- [e for x in list]: data -/
theorem de_lcl {K : PySem.W.Frag} {i : Nat} {dd : PyData → PyData} (h : PE X e (tLc (iList K (tD sl N Γ (.list ds))) (gName i) tYes (tXp sl (fun a : PyData => (i, a) :: Γ) dd) [i])) (hi : (Γ.all fun p => decide (p.1 ≠ i)) = true) (hl : i < sl) :
    PE X e (tD sl N Γ (.list (ds.map dd))) :=
  pe_weak h fun σ H Q q => ⟨q.1, fun v H1 s1 hd => by
    cases hd with
    | @lst a xs _ n e h =>
      have hlen := h.len
      refine ⟨a, rfl, ⟨_, sq e⟩, fun D nD => ?_⟩
      have hx' := h.off nD
      refine lc_it (walk_list (K := K) (a := a) (xs := xs)) (fun j H' => Same H1 H' ∧ ∃ out, H' D = some (.lst out) ∧ DtAll (fun b => N b ∧ b ≠ D) H' out ((ds.take j).map dd)) ⟨same_upd nD, [], upd_same, .nil⟩ (fun j H' _ ⟨s, _⟩ => sq (s _ _ e)) ?_ ?_
      · rintro j y H8 H' hj ⟨s2, out, hD2, hout⟩ ⟨rfl, ey⟩
        rw [hlen] at hj
        obtain ⟨v', hv, hvd⟩ := h.get (List.getElem?_eq_getElem hj)
        rw [hv] at ey
        cases ey
        have hol := hout.len
        rw [List.length_map, List.length_take] at hol
        have hsn : ds.take (j + 1) = ds.take j ++ [ds[j]] := by rw [List.take_succ, List.getElem?_eq_getElem hj]; rfl
        refine ⟨by simp [wipe], fun b => N b ∧ b ≠ D, ds[j], ((q.1.mono s1).offD nD s2 hD2).wiped hi hl ((hvd.off nD).mono s2), fun u H3 s3 hu' => ?_⟩
        refine ⟨out, s3 _ _ hD2, szlt (by have := n.2; omega), same_mut (s2.trans s3) nD, _, upd_same, ?_⟩
        have kp : ∀ b o, (N b ∧ b ≠ D) → H3 b = some o → (upd H3 D (.lst (out ++ [u]))) b = some o := fun b o hb e => by rw [upd_ne hb.2]; exact e
        rw [hsn, List.map_append]
        exact ((hout.mono s3).to (fun _ q => q) kp).app (.cons (hu'.to (fun _ q => q) kp) .nil)
      · rintro H2 ⟨s2, out, hD2, hout⟩
        rw [hlen, List.take_length] at hout
        exact q.2 _ _ (s1.trans s2) (.lst ⟨q.1.n _ (s1.free nD), by rw [List.length_map]; exact n.2⟩ hD2 (hout.to (fun _ q => q.1) fun _ _ _ e => e))⟩
/-- [e for x in range(n)]: data -/
theorem de_lcr {i n : Nat} {m : Int} {dd : Int → PyData} (h : PE X e (tLc (iRng1 (tCons (tC (.int m)) tNil)) (gName i) tYes (tXp sl (fun a : Int => (i, .int a) :: Γ) dd) [i])) (hi : (Γ.all fun p => decide (p.1 ≠ i)) = true) (hl : i < sl) (hm : m = (n : Int)) (hn : n ≤ 1000) :
    PE X e (tD sl N Γ (.list ((List.range n).map fun j : Nat => dd (j : Int)))) :=
  pe_weak h fun σ H Q q => by
    subst hm
    refine ⟨(n : Int), rfl, by omega, by omega, fun D nD => ?_⟩
    refine lc_it (walk_range (lo := 0) (n := (n : Int).toNat)) (fun j H' => Same H H' ∧ ∃ out, H' D = some (.lst out) ∧ DtAll (fun b => N b ∧ b ≠ D) H' out ((List.range j).map fun j : Nat => dd (j : Int))) ⟨same_upd nD, [], upd_same, .nil⟩ (fun _ _ _ _ => True.intro) ?_ ?_
    · rintro j y H8 H' hj ⟨s2, out, hD2, hout⟩ ⟨rfl, rfl⟩
      have hol := hout.len
      rw [List.length_map, List.length_range] at hol
      refine ⟨by simp [wipe], fun b => N b ∧ b ≠ D, (0 : Int) + j, (q.1.offD nD s2 hD2).wiped hi hl (.int _), fun u H3 s3 hu' => ?_⟩
      refine ⟨out, s3 _ _ hD2, szlt (by omega), same_mut (s2.trans s3) nD, _, upd_same, ?_⟩
      have kp : ∀ b o, (N b ∧ b ≠ D) → H3 b = some o → (upd H3 D (.lst (out ++ [u]))) b = some o := fun b o hb e => by rw [upd_ne hb.2]; exact e
      rw [List.range_succ, List.map_append]
      refine ((hout.mono s3).to (fun _ q => q) kp).app (.cons ?_ .nil)
      have := hu'.to (fun _ q => q) kp
      rw [Int.zero_add] at this
      exact this
    · rintro H2 ⟨s2, out, hD2, hout⟩
      rw [show (n : Int).toNat = n from rfl] at hout
      exact q.2 _ _ s2 (.lst ⟨q.1.n _ nD, by rw [List.length_map, List.length_range]; exact hn⟩ hD2 (hout.to (fun _ q => q.1) fun _ _ _ e => e))
theorem EnvD.nil {σ : L2.St} {H : Hp} (h : ∀ a, H a = none → N a) (l : sl ≤ σ.length) : EnvD sl N [] σ H := ⟨fun p hp => (by cases hp), h, l⟩
theorem EnvD.cons {σ : L2.St} {H : Hp} {i : Nat} {v : V} (h : EnvD sl N Γ σ H) (hv : Dt N H v d) (e : σ[i]? = some (some v)) : EnvD sl N ((i, d) :: Γ) σ H :=
  ⟨fun p hp => by
    rcases List.mem_cons.mp hp with rfl | hp
    · exact ⟨v, e, hv⟩
    · exact h.v p hp, h.n, h.l⟩
/-- a list display of data, no part of it the list itself -/
def tDL (sl : Nat) (N : Addr → Prop) (Γ : List (Nat × PyData)) (ds : List PyData) : TE := fun σ H Q => EnvD sl N Γ σ H ∧ ∀ l xs H', Same H H' → H l = none → H' l = some (.lst xs) → DtAll (fun b => N b ∧ b ≠ l) H' xs ds → Q (.ref l) H'
theorem de_lstL {pos} (h : PA X es (tDs sl N Γ ds)) (l : ds.length ≤ 1000) : PE X (.List es pos) (tDL sl N Γ ds) :=
  pe_weak (pe_lst h) fun σ H Q q => ⟨q.1, fun vs H1 s1 hds => ⟨szD hds l, fun p np => q.2 _ _ _ (s1.trans (same_upd np)) (s1.free np) upd_same ((hds.off np).mono (same_upd np))⟩⟩
theorem dL (sl : Nat) (N : Addr → Prop) (Γ : List (Nat × PyData)) (h : PE X e (tDL sl N Γ ds)) : PE X e (tDL sl N Γ ds) := h
theorem dX (sl : Nat) {α : Type} {dd : α → PyData} (Γ : α → List (Nat × PyData)) (h : ∀ N x, PE X e (tD sl N (Γ x) (dd x))) : PE X e (tXp sl Γ dd) := de_x h
end
end Ls

/-! ### own operators of a class with a dict: x in o -/
namespace Ls
open PySem PySem.Spec PyProof.Rows L2
section
open PySem.W
variable {prog : Program} {w : World} {A : Around} {E : Value → Shared → Prop} {s : Shared} {K : Frag} {c C f : Addr} {oc : Obj} {od : Option Obj} {x : Value}
theorem contains_own {Q : Bool → Shared → Prop} (X : K.In s.heap) (I : InstAt s.heap c oc C od) (hs : findIn K (.ref C) "__contains__" = some (some (.ref f))) (hf : typeIn K (.ref f) = some (.type "function"))
    (h : wpAny (model prog w) A (call (.ref f) [.ref c, x]) (fun r s1 => ∃ b, r = Value.bool b ∧ Q b s1) E s) : wpAny (model prog w) A (contains (.ref c) x) Q E s := by
  unfold contains
  refine wpAny_holding ?_
  show wpAny _ _ (specialOf (.ref c) "__contains__" >>= _) _ _ _
  refine wpAny_bind (wpAny_bind (I.type.here ((looks_findIn X hs).here ?_)))
  refine KFB.if_not rfl ?_
  show wpAny _ _ (callSpecialUnlessNone? (.ref c) "__contains__" [x] _ >>= _) _ _ _
  refine wpAny_bind ?_
  unfold callSpecialUnlessNone?
  refine wpAny_bind (wpAny_bind (I.type.here ((looks_findIn X hs).here ?_)))
  refine wpAny_holding (wpAny_bind ((bind_fn X _ hf).here ?_))
  refine KFB.if_not rfl ?_
  refine wpAny_bind (wpAny_mono h (fun r s1 hr => ?_) fun _ _ z => z)
  obtain ⟨b, rfl, q⟩ := hr
  exact wpAny_pure (wpAny_truthy_bool q)
end
section
variable {X : Cx} {CX : CXT} {k : Nat} {g C : Addr} {fd : FuncData} {ps : List Str} {sp : Sp} {E : XK}
/-- x in o, o of the class at C, whose __contains__ keeps sp -/
def rInOwn (C : Addr) (sp : Sp) (E : XK) : R2 := fun x y H Q => ∃ a dx fs, y = .ref a ∧ H a = some (.ins C dx fs) ∧ sp [.ref a, x] H (fun v H1 => ∃ b, v = .bl b ∧ Q (.bl b) H1) E
theorem op_inOwn (hm : Meth X.K C "__contains__" g) (F : FnOk X.prog X.w X.K X.mg X.base CX k g fd ps sp) (hr : Room k X.A) (hb : Binds X.K fd ps []) (hx : Passes CX X E) : OpR X (compareOp .In) (rInOwn C sp E) := by
  intro pins s σ H x y v u Q I rx ry h
  obtain ⟨a, dx, fs, rfl, ea, q⟩ := h
  obtain rfl : u = Value.ref a := ry
  obtain ⟨mA, O, _, _, _, _⟩ := ins_get I.hok ea
  obtain ⟨od, J, _⟩ := O.look
  show wpAny _ _ (contains (.ref a) v >>= fun b => pure (Value.bool b)) _ _ _
  refine wpAny_bind (contains_own I.kIn J hm.at_ (beq_iff_eq.mp hm.fn) (wpAny_mono (run_fn (us := [.ref a, v]) (vs := [.ref a, x]) F hr hb .nil hx I (.cons rfl (.cons rx .nil)) q) (fun r s1 z => ?_) fun _ _ z => z))
  obtain ⟨z', H', I', rz, b, rfl, qz⟩ := z
  obtain rfl : r = Value.bool b := rz
  exact ⟨b, rfl, wpAny_pure ⟨.bl b, H', I', rfl, qz⟩⟩
/-- x not in o -/
def rNiOwn (C : Addr) (sp : Sp) (E : XK) : R2 := fun x y H Q => ∃ a dx fs, y = .ref a ∧ H a = some (.ins C dx fs) ∧ sp [.ref a, x] H (fun v H1 => ∃ b, v = .bl b ∧ Q (.bl (!b)) H1) E
theorem op_niOwn (hm : Meth X.K C "__contains__" g) (F : FnOk X.prog X.w X.K X.mg X.base CX k g fd ps sp) (hr : Room k X.A) (hb : Binds X.K fd ps []) (hx : Passes CX X E) : OpR X (compareOp .NotIn) (rNiOwn C sp E) := by
  intro pins s σ H x y v u Q I rx ry h
  obtain ⟨a, dx, fs, rfl, ea, q⟩ := h
  obtain rfl : u = Value.ref a := ry
  obtain ⟨mA, O, _, _, _, _⟩ := ins_get I.hok ea
  obtain ⟨od, J, _⟩ := O.look
  show wpAny _ _ (contains (.ref a) v >>= fun b => pure (Value.bool (!b))) _ _ _
  refine wpAny_bind (contains_own I.kIn J hm.at_ (beq_iff_eq.mp hm.fn) (wpAny_mono (run_fn (us := [.ref a, v]) (vs := [.ref a, x]) F hr hb .nil hx I (.cons rfl (.cons rx .nil)) q) (fun r s1 z => ?_) fun _ _ z => z))
  obtain ⟨z', H', I', rz, b, rfl, qz⟩ := z
  obtain rfl : r = Value.bool b := rz
  exact ⟨b, rfl, wpAny_pure ⟨.bl (!b), H', I', rfl, qz⟩⟩
end
section
variable {X : Cx}
theorem kAny (K : PySem.W.Frag) (hc : X.calm = true) (h : X.K = K := by rfl) : CallR X (.builtin "any") (rAny K) := by subst h; exact cr_any hc
theorem kMax (K : PySem.W.Frag) (hc : X.calm = true) (h : X.K = K := by rfl) : CallR X (.builtin "max") (rMax K) := by subst h; exact cr_max hc
theorem kMin (K : PySem.W.Frag) (hc : X.calm = true) (h : X.K = K := by rfl) : CallR X (.builtin "min") (rMin K) := by subst h; exact cr_min hc
end
end Ls

/-! LsKw: a new instance of a class whose __init__ has keyword-only parameters. -/
namespace Ls
open PySem PySem.Spec PyProof.Rows L2
/-- C(e, .., k = v, ..): n written values, the keywords ks; gV: what __init__ then sees -/
structure MakK (P : Program) (w : World) (K : PySem.W.Frag) (mg : Str → Option Value) (base : Heap) (k : Nat) (x : Str) (C : Addr) (sp : Sp) (n : Nat) (ks : List Str) (gV : List V → List V → List V) : Prop where
  ex : ∃ (f : Addr) (fd : FuncData) (ps : List Str) (g : List Value → List Value → List Value), Mk K C f ∧ FnOk P w K mg base CX0 k f fd ps sp ∧ mg x = some (.ref C) ∧ KBn K fd ps (n + 1) ks g gV
section
variable {X : Cx} {e : Expr} {es : List Expr} {kws : List Keyword} {t tk : TA} {p pos : Pos} {x : Str} {k j n : Nat} {sp : Sp} {C : Addr} {ks : List Str} {gV : List V → List V → List V}
theorem pe_mkK (c : MakK X.prog X.w X.K X.mg X.base k x C sp n ks gV) (hr : Room j X.A) (hk : k + 1 ≤ j) (hg : Gl X x) (ha : PA X (e :: es) t) (hkw : PK X kws tk)
    (hall : (backToKw pos (keywordEach kws X.env)).all (·.1.isSome) = true := by rfl) (hks : (backToKw pos (keywordEach kws X.env)).filterMap (·.1) = ks := by rfl) (hdb : (x == ("__debug__" : Str)) = false := by decide)
    (he : starEach (e :: es) X.env = (false, eval e X.env) :: starEach es X.env := by rfl) (hpl : ((backTo pos (starEach (e :: es) X.env)).any (·.1) || (backToKw pos (keywordEach kws X.env)).any (·.1.isNone)) = false := by rfl) :
    PE X (.Call (.Name x p) (e :: es) kws pos) (tMakeK C n ks.length sp gV E0 t tk) := by
  have ⟨f, fd, ps, g, M, F, hm, b⟩ := c.ex
  exact pe_makeK M F (hr.mono hk) hg hm b pass0 ha hkw hall hks hdb he hpl
end
/-! ### a method f(self, *r) -/
theorem cxnew0 : CXNew CX0 := fun _ _ _ _ _ _ _ _ _ _ _ _ h => h
theorem FunD.okV {P : Program} {w : World} {K : PySem.W.Frag} {mg : Str → Option Value} {base : Heap} {x qual : Str} {params : Arguments} {body : List Stmt} {scope : Scope} {kws : List (Str × V)} {f : Addr} {fd : FuncData} {N : List Str} {pa pv : Str} {nmax k : Nat} {sp : Sp}
    (F : FunD K x qual params body scope [] kws f fd) (S : FnScope N [pa, pv] scope) (hz : nmax ≤ sizeLine)
    (hb : ∀ (kV doc pm : Value) (an : Option Addr) (cdv ct u : Value) (rest : List Value), rest.length ≤ nmax → bindArgs (PySem.W.fnOf x qual params body scope .none kV doc pm an cdv ct) ⟨u :: rest, []⟩ = (newTuple rest >>= fun t => pure [(pa, u), (pv, t)]))
    (hbody : ∀ (cdv : Value) (A : Around) (outer : List Env) (s : Shared) (H : Hp) (vs : List V) (Q : VK) (E : XK), Room k (A.deeper (envOfC qual scope s.heap.objs.size f cdv)) → sp vs H Q E →
      ∃ t, PSs (cxOf CX0 P w K mg base N qual scope f cdv A outer s H E) body t ∧ t { nx := fun _ H' => Q .non H', rt := Q } (start N vs) H) :
    FnR P w K mg base CX0 (k + 1) f (fun vs H Q E => ∃ v rest, vs = v :: rest ∧ rest.length ≤ nmax ∧ ∀ p, H p = none → sp [v, .ref p] (upd H p (.tup rest)) Q E) := by
  obtain ⟨oc, od, dV, kV, doc, pm, an, cdv, ct, osl, rfl, lk, hcd, hD, _⟩ := F.ex
  rcases hD with ⟨_, rfl⟩ | ⟨e, _⟩
  case inr => exact absurd rfl e
  exact fn_ofV lk hcd S hz (hb kV doc pm an cdv ct) cxnew0 fun A outer s H vs Q E hr hsp => hbody cdv A outer s H vs Q E hr hsp
end Ls

/-! LsMeth: own methods as callers need them: raising ones (also within a try), ones with star arguments, classmethods; cls(..) within a classmethod; != of None or dicts. -/
namespace Ls
open PySem PySem.Spec PyProof.Rows L2 ClX
section
variable (P : Program) (w : World) (K : PySem.W.Frag) (mg : Str → Option Value) (base : Heap) (k : Nat) (C : Addr) (m : Str) (sp : Sp)
/-- a method that may raise -/
structure MetX : Prop where
  cl : Cls K C
  ex : ∃ (f : Addr) (fd : FuncData) (ps : List Str), Meth K C m f ∧ FnOk P w K mg base (L2.CX P w) k f fd ps sp ∧ Binds K fd ps []
/-- a method that raises nothing -/
structure MetS : Prop where
  cl : Cls K C
  ex : ∃ (f : Addr) (fd : FuncData) (ps : List Str), Meth K C m f ∧ FnOk P w K mg base CX0 k f fd ps sp ∧ Binds K fd ps []
/-- .. by position -/
structure MetR : Prop where
  cl : Cls K C
  ex : ∃ (f : Addr), Meth K C m f ∧ FnR P w K mg base CX0 k f sp
/-- a classmethod -/
structure MetCl : Prop where
  ex : ∃ (mc : Value) (p g : Addr), CRead K C mc ∧ CMet K C mc m p g ∧ FnR P w K mg base CX0 k g sp
end
/-- o.m() within a try -/
def tMethX (C : Addr) (m : Str) (sp : Sp) (W : WX) (ta : TE) : TE := fun σ H Q => ta σ H fun x H1 => ∃ a dx fs, x = .ref a ∧ H1 a = some (.ins C dx fs) ∧ fs.lookup m = none ∧ sp [x] H1 Q (WE W σ)
def tMakeV (i : Nat) (C : Addr) (n : Nat) (sp : Sp) (gV : List V → List V → List V) (t : TA) : TE := fun σ H Q => σ[i]? = some (some (.ref C)) ∧ t σ H fun vs H1 => vs.length = n ∧ ∀ x dx, H1 x = none → H1 dx = none → dx ≠ x →
  sp (gV (.ref x :: vs) []) (upd (upd H1 dx (.own x)) x (.ins C dx [])) (fun v H3 => v = .non ∧ Q (.ref x) H3) E0
section
variable {X : Cx} {W : WX} {E : XK} {o e : Expr} {es : List Expr} {ta : TE} {t : TA} {p pos apos : Pos} {x m : Str} {k j : Nat} {sp : Sp} {C : Addr} {pl : Sem Bool}
theorem pe_mx0 (c : MetX X.prog X.w X.K X.mg X.base k C m sp) (tk : Takes X W) (hE : ∀ cls d σ H, E cls d H → W cls d σ H) (hr : Room j X.A) (hk : k ≤ j) (he : PE X o ta)
    (ht : eval (.Call (.Attribute o m apos) [] [] pos) X.env = (do
      let ov ← eval o X.env
      standAt apos.atName
      let (f, first) ← holding [ov] (getMethod ov m pl)
      callWith pos f first (backTo pos (starEach [] X.env)) (backToKw pos (keywordEach [] X.env))) := by rfl) :
    PE X (.Call (.Attribute o m apos) [] [] pos) (tMeth C m sp [] E ta tNil) := by
  have ⟨f, fd, ps, hm, F, b⟩ := c.ex
  exact pe_meth0 he c.cl hm F (hr.mono hk) b .nil (passes_call tk hE) ht
theorem pe_mxS0 (c : MetX X.prog X.w X.K X.mg X.base k C m sp) (tk : Takes X W) (hr : Room j X.A) (hk : k ≤ j) (he : PE X o ta)
    (ht : eval (.Call (.Attribute o m apos) [] [] pos) X.env = (do
      let ov ← eval o X.env
      standAt apos.atName
      let (f, first) ← holding [ov] (getMethod ov m pl)
      callWith pos f first (backTo pos (starEach [] X.env)) (backToKw pos (keywordEach [] X.env))) := by rfl) :
    PE X (.Call (.Attribute o m apos) [] [] pos) (tMethX C m sp W ta) := by
  have ⟨f, fd, ps, hm, F, b⟩ := c.ex
  refine ⟨fun pins s σ H Q I h => ?_⟩
  refine PySem.W.methodCall_KW (pl := pl) (thn (he.run pins s σ H _ I h) fun u s1 ⟨x, H1, I1, rx, a, dx, fs, ex, ea, l, q⟩ => ?_) ht
  subst ex
  obtain rfl : u = Value.ref a := rx
  refine getmeth_ok I1 ea c.cl hm l ?_
  exact PySem.W.callWith_K0 (first := [.ref a]) I1.kIn hm.kp (run_fnS (E := WE W) (us := [.ref a]) (vs := [.ref a]) F (hr.mono hk) b (passAt tk σ) I1 (.cons rfl .nil) q)
theorem pe_mr (c : MetR X.prog X.w X.K X.mg X.base k C m sp) (hr : Room j X.A) (hk : k ≤ j) (he : PE X o ta) (ha : PA X (e :: es) t)
    (hst : starEach (e :: es) X.env = (false, eval e X.env) :: starEach es X.env := by rfl) (hpl : (backTo pos (starEach es X.env)).any (·.1) = false := by rfl)
    (ht : eval (.Call (.Attribute o m apos) (e :: es) [] pos) X.env = (do
      let ov ← eval o X.env
      standAt apos.atName
      let (f, first) ← holding [ov] (getMethod ov m pl)
      callWith pos f first (backTo pos (starEach (e :: es) X.env)) (backToKw pos (keywordEach [] X.env))) := by rfl) :
    PE X (.Call (.Attribute o m apos) (e :: es) [] pos) (tMethR C m sp E0 ta t) := by
  have ⟨f, hm, F⟩ := c.ex
  exact pe_methR he c.cl hm F (hr.mono hk) pass0 ha hst hpl ht
theorem pe_mcl (c : MetCl X.prog X.w X.K X.mg X.base k C m sp) (hr : Room j X.A) (hk : k ≤ j) (he : PE X o ta) (ha : PA X (e :: es) t)
    (hst : starEach (e :: es) X.env = (false, eval e X.env) :: starEach es X.env := by rfl) (hpl : (backTo pos (starEach es X.env)).any (·.1) = false := by rfl)
    (ht : eval (.Call (.Attribute o m apos) (e :: es) [] pos) X.env = (do
      let ov ← eval o X.env
      standAt apos.atName
      let (f, first) ← holding [ov] (getMethod ov m pl)
      callWith pos f first (backTo pos (starEach (e :: es) X.env)) (backToKw pos (keywordEach [] X.env))) := by rfl) :
    PE X (.Call (.Attribute o m apos) (e :: es) [] pos) (tCMeth C sp E0 ta t) := by
  have ⟨mc, q, g, r, cm, F⟩ := c.ex
  exact pe_cmeth he r cm F (hr.mono hk) pass0 ha hst hpl ht
theorem kNiOwn (c : MetS X.prog X.w X.K X.mg X.base k C "__contains__" sp) (hr : Room j X.A) (hk : k ≤ j) : OpR X (compareOp .NotIn) (rNiOwn C sp E0) := by
  have ⟨f, fd, ps, hm, F, b⟩ := c.ex
  exact op_niOwn hm F (hr.mono hk) b pass0
theorem kInOwn (c : MetS X.prog X.w X.K X.mg X.base k C "__contains__" sp) (hr : Room j X.A) (hk : k ≤ j) : OpR X (compareOp .In) (rInOwn C sp E0) := by
  have ⟨f, fd, ps, hm, F, b⟩ := c.ex
  exact op_inOwn hm F (hr.mono hk) b pass0
/-- cls(e, ..), cls a local name that holds the class -/
theorem pe_mkV {i n : Nat} {nm : Str} {gV : List V → List V → List V} (c : MakK X.prog X.w X.K X.mg X.base k nm C sp n [] gV) (hr : Room j X.A) (hk : k + 1 ≤ j) (hN : X.N[i]? = some x) (hv : Vis X.env.scope x) (ha : PA X (e :: es) t)
    (hd : (x == ("__debug__" : Str)) = false := by decide) (hcd : (x == ("__classdict__" : Str)) = false := by decide)
    (he : starEach (e :: es) X.env = (false, eval e X.env) :: starEach es X.env := by rfl) (hpl : (backTo pos (starEach es X.env)).any (·.1) = false := by rfl) : PE X (.Call (.Name x p) (e :: es) [] pos) (tMakeV i C n sp gV t) := by
  have ⟨f, fd, ps, g, M, F, hm, b⟩ := c.ex
  refine ⟨fun pins s σ H Q I h => ?_⟩
  obtain ⟨hs, h⟩ := h
  refine wpAny_Call_Name_kw (thn ((pe_var (pos := p) (i := i) hN hv hd hcd).run pins s σ H (fun v H1 => v = .ref C ∧ H1 = H) I ⟨.ref C, hs, rfl, rfl⟩) fun u s1 ⟨v, H1, I1, r1, ev, eH⟩ => ?_)
  subst ev
  rw [eH] at I1
  cases r1
  refine PySem.W.callWith_K (h₀ := X.base) I.ok.mod.kin M.kp (thn (ha.run pos pins s1 σ H _ I1 h) fun us s2 ⟨vs, H2, I2, r, l1, q⟩ => ⟨I2.kIn, ?_⟩) he hpl
  exact run_makeK (ws := []) (zs := []) M F (hr.mono hk) b pass0 I2 r .nil l1 rfl q
/-- None or dicts: != -/
def rNeO : R2 := fun x y H Q => rNe x y H Q ∨ rNeDA x y H Q
theorem op_neO (hu : X.A.units < cLine) : OpR X (compareOp .NotEq) rNeO := fun pins s σ H x y v u Q I rx ry h => h.elim (op_ne pins s σ H x y v u Q I rx ry) (op_ne_dictA hu pins s σ H x y v u Q I rx ry)
end
end Ls

/-! ### own operators: o op o', ~o, bool(o), methods without arguments -/
namespace Ls
open PySem PySem.Spec PyProof.Rows L2
section
open PySem.W
variable {prog : Program} {w : World} {A : Around} {E : Value → Shared → Prop} {s : Shared} {K : Frag} {x C f : Addr} {ox : Obj} {od : Option Obj}
theorem truthy_own {M : Model} {Q : Bool → Shared → Prop} (X : K.In s.heap) (I : InstAt s.heap x ox C od) (hs : findIn K (.ref C) "__bool__" = some (some (.ref f))) (hf : isFn K (.ref f) = true)
    (h : wpAny M A (call (.ref f) [.ref x]) (PySem.W.BoolBack Q) E s) : wpAny M A (truthy (.ref x)) Q E s := by
  unfold truthy
  refine wpAny_bind (m := callSpecial? (.ref x) (Str.ofString "__bool__")) (special_fn X I hs (beq_iff_eq.mp hf) (wpAny_mono h (fun r s' hr => ?_) fun _ _ y => y))
  cases r <;> first | exact hr.elim | skip
  exact wpAny_pure hr
theorem bool_in (v : Value) : MeetsIn prog w (Builtin.«bool.__new__» ⟨[.type "bool", v], []⟩) (fun A R s => wpAny (model prog w) A.in1 (truthy v) (fun b s' => R (.ok (.ret (.bool b))) s') (fun e s' => R (.error e) s') s) :=
  .of_wp fun A R s h => by
    obtain ⟨hp, g, d, tk, os⟩ := s
    have f1 := F.conv_sub_bool
    repeat (any_goals (first | assumption | (with_reducible refine wpAny_mono h ?_ ?_) | wp_step))
    all_goals first | exact fun _ _ z => z | exact fun b s' z => wpAny_pure ⟨_, rfl, z⟩ | skip
theorem inv_own {M : Model} {Q : Value → Shared → Prop} (X : K.In s.heap) (I : InstAt s.heap x ox C od) (hs : findIn K (.ref C) "__invert__" = some (some (.ref f))) (hf : isFn K (.ref f) = true)
    (h : wpAny M A (call (.ref f) [.ref x]) Q E s) : wpAny M A (unaryOp .Invert (.ref x)) Q E s := by
  unfold unaryOp
  refine wpAny_holding ?_
  exact wpAny_bind (special_fn X I hs (beq_iff_eq.mp hf) (wpAny_mono h (fun _ _ z => wpAny_pure z) fun _ _ z => z))
theorem bin_own {op : Operator} {b : Value} {Q : Value → Shared → Prop} (X : K.In s.heap) (I : InstAt s.heap x ox C od) (hb : Looks (model prog w) s.heap (typeOf b) (.ref C)) (hc : selfFirst K C = true)
    (hs : findIn K (.ref C) (PySem.dunder op.info.2) = some (some (.ref f))) (hf : isFn K (.ref f) = true)
    (h : wpAny (model prog w) A (call (.ref f) [.ref x, b]) (PySem.W.CmpBack Q) E s) : wpAny (model prog w) A (binaryOp op (.ref x) b) Q E s := by
  obtain ⟨cd, hcd, hm⟩ := any_some hc
  obtain ⟨rest, hm⟩ : ∃ rest, cd.mro = .ref C :: rest := by
    cases q : cd.mro with
    | nil => rw [q] at hm; cases hm
    | cons a r => rw [q] at hm; exact ⟨r, by rw [List.head?_cons] at hm; cases (beq_iff_eq.mp hm); rfl⟩
  unfold binaryOp
  refine wpAny_holding (wpAny_bind ?_)
  unfold binaryOp1
  refine wpAny_bind (I.type.here (wpAny_bind (hb.here (wpAny_bind ((fills_K X hcd hm hs).here ?_)))))
  simp only [beq_self_eq_true, if_true]
  refine wpAny_bind (wpAny_pure ?_)
  simp only [Bool.and_false, Bool.false_eq_true, if_false, Bool.false_and]
  refine wpAny_bind (wpAny_pure ?_)
  simp only [Bool.false_eq_true, if_false]
  refine wpAny_bind (m := tryMethod (.ref x) _ b) ?_
  unfold tryMethod
  refine wpAny_bind (special_fn X I hs (beq_iff_eq.mp hf) (wpAny_mono h (fun v s' hv => ?_) fun _ _ e => e))
  cases v <;> first | exact hv.elim | exact wpAny_pure (wpAny_pure (wpAny_pure hv))
end
section
variable {X : Cx} {CX : CXT} {k j : Nat} {g C : Addr} {fd : FuncData} {ps : List Str} {sp : Sp} {E : XK}
/-- bool(o) of an instance -/
def rBoolOwn (C : Addr) (sp : Sp) : List V → Hp → VK → Prop := fun xs H Q => ∃ a dx fs, xs = [V.ref a] ∧ H a = some (.ins C dx fs) ∧ sp [.ref a] H (fun z H' => ∃ b, z = .bl b ∧ Q (.bl b) H') E0
theorem kBoolOwn (c : MetS X.prog X.w X.K X.mg X.base k C "__bool__" sp) (hr : Room j X.A) (hk : k + 2 ≤ j) : CallR X (.type "bool") (rBoolOwn C sp) := by
  have ⟨f, fd, ps, hm, F, hb⟩ := c.ex
  intro pins s σ H xs us Q I r h
  obtain ⟨a, dx, fs, rfl, ea, q⟩ := h
  obtain ⟨u, rfl, ru⟩ := r.one
  cases (show u = Value.ref a from ru)
  obtain ⟨mA, O, _, _, _, _⟩ := ins_get I.hok ea
  obtain ⟨od, J, _⟩ := O.look
  have hr2 : Room k X.A.in1.in1 := (show Room (k + 1) X.A.in1 from Room.in1 (hr.mono hk)).in1
  have F' : FnR X.prog X.w X.K X.mg X.base CX0 k f sp := (FnOk.raw F hb .nil).imp fun vs H Q E h => by rw [List.append_nil]; exact h
  refine callType_newIn PySem.F.called_bool PySem.F.newNe_bool (PySem.F.typeCall_bool_1 _) (PySem.F.newCall_bool_1 _) (fun obj => PySem.F.args_object_init_2 obj _) PySem.F.entry_bool_new (bool_in _) ?_
  refine truthy_own I.kIn J hm.at_ hm.fn (wpAny_mono (wpAny_call (SlX.run_at (us := [.ref a]) (ws := [.ref a]) F' hr2 I.env0.in1.in1 pass0 I (.cons rfl .nil) q)) (fun v s' z => ?_) fun _ _ x => x)
  obtain ⟨z', H', I', rz, b, ei, qz⟩ := z
  subst ei
  obtain rfl : v = Value.bool b := rz
  exact ⟨rfl, .bl b, H', I', rfl, qz⟩
/-- ~o of an instance -/
def rUnOwn (C : Addr) (sp : Sp) : V → Hp → VK → Prop := fun x H Q => ∃ a dx fs, x = V.ref a ∧ H a = some (.ins C dx fs) ∧ sp [.ref a] H Q E0
theorem kInvOwn (c : MetS X.prog X.w X.K X.mg X.base k C "__invert__" sp) (hr : Room j X.A) (hk : k ≤ j) : UnR X (unaryOp .Invert) (rUnOwn C sp) := by
  have ⟨f, fd, ps, hm, F, hb⟩ := c.ex
  intro pins s σ H x v Q I rx h
  obtain ⟨a, dx, fs, rfl, ea, q⟩ := h
  obtain rfl : v = Value.ref a := rx
  obtain ⟨mA, O, _, _, _, _⟩ := ins_get I.hok ea
  obtain ⟨od, J, _⟩ := O.look
  exact inv_own I.kIn J hm.at_ hm.fn (run_fn (us := [.ref a]) (vs := [.ref a]) F (hr.mono hk) hb .nil pass0 I (.cons rfl .nil) q)
/-- o op o', both of the class -/
def rBinOwn (C : Addr) (sp : Sp) : R2 := fun x y H Q => ∃ a b dx fs dx' fs', x = V.ref a ∧ y = V.ref b ∧ H a = some (.ins C dx fs) ∧ H b = some (.ins C dx' fs') ∧ sp [.ref a, .ref b] H (fun z H' => ∃ r, z = .ref r ∧ Q (.ref r) H') E0
theorem kBinOwn {op : Operator} {nm : Str} (c : MetS X.prog X.w X.K X.mg X.base k C nm sp) (hc : PySem.W.selfFirst X.K C = true) (hnm : nm = PySem.dunder op.info.2) (hr : Room j X.A) (hk : k ≤ j) : OpR X (binaryOp op) (rBinOwn C sp) := by
  subst hnm
  have ⟨f, fd, ps, hm, F, hb⟩ := c.ex
  intro pins s σ H x y v u Q I rx ry h
  obtain ⟨a, b, dx, fs, dx', fs', rfl, rfl, ea, eb, q⟩ := h
  obtain rfl : v = Value.ref a := rx
  obtain rfl : u = Value.ref b := ry
  obtain ⟨mA, O, _, _, _, _⟩ := ins_get I.hok ea
  obtain ⟨od, J, _⟩ := O.look
  obtain ⟨mB, O2, _, _, _, _⟩ := ins_get I.hok eb
  obtain ⟨od2, J2, _⟩ := O2.look
  refine bin_own I.kIn J J2.type hc hm.at_ hm.fn (wpAny_mono (run_fn (us := [.ref a, .ref b]) (vs := [.ref a, .ref b]) F (hr.mono hk) hb .nil pass0 I (.cons rfl (.cons rfl .nil)) q) (fun r s' z => ?_) fun _ _ x => x)
  obtain ⟨z', H', I', rz, p, ei, qz⟩ := z
  subst ei
  obtain rfl : r = Value.ref p := rz
  exact ⟨.ref p, H', I', rfl, qz⟩
end
end Ls
namespace Ls
open PySem PySem.Spec PyProof.Rows L2
/-! ### properties and methods without arguments as callers need them -/
section
variable (P : Program) (w : World) (K : PySem.W.Frag) (mg : Str → Option Value) (base : Heap) (k : Nat) (C : Addr) (m : Str) (sp : Sp)
structure MetP : Prop where
  cl : Cls K C
  ex : ∃ (p g : Addr) (fd : FuncData) (ps : List Str), PropOf K C m p g ∧ FnOk P w K mg base CX0 k g fd ps sp ∧ Binds K fd ps []
end
section
variable {X : Cx} {k j : Nat} {C : Addr} {m : Str} {sp : Sp} {o : Expr} {ta : TE} {p pos apos : Pos} {pl : Sem Bool}
theorem pe_mp (c : MetP X.prog X.w X.K X.mg X.base k C m sp) (hr : Room j X.A) (hk : k + 1 ≤ j) (he : PE X o ta)
    (hab : attributeBase o m X.env (eval o X.env) = eval o X.env := by rfl) : PE X (.Attribute o m pos) (tProp C sp [] E0 ta) := by
  have ⟨p, g, fd, ps, hp, F, b⟩ := c.ex
  exact pe_prop he c.cl hp F (hr.mono hk) b .nil pass0 hab
theorem pe_ms0 (c : MetS X.prog X.w X.K X.mg X.base k C m sp) (hr : Room j X.A) (hk : k ≤ j) (he : PE X o ta)
    (ht : eval (.Call (.Attribute o m apos) [] [] pos) X.env = (do
      let ov ← eval o X.env
      standAt apos.atName
      let (f, first) ← holding [ov] (getMethod ov m pl)
      callWith pos f first (backTo pos (starEach [] X.env)) (backToKw pos (keywordEach [] X.env))) := by rfl) :
    PE X (.Call (.Attribute o m apos) [] [] pos) (tMeth C m sp [] E0 ta tNil) := by
  have ⟨f, fd, ps, hm, F, b⟩ := c.ex
  exact pe_meth0 he c.cl hm F (hr.mono hk) b .nil pass0 ht
/-- o.m() of a method by position -/
theorem pe_mr0 (c : MetR X.prog X.w X.K X.mg X.base k C m sp) (hr : Room j X.A) (hk : k ≤ j) (he : PE X o ta)
    (ht : eval (.Call (.Attribute o m apos) [] [] pos) X.env = (do
      let ov ← eval o X.env
      standAt apos.atName
      let (f, first) ← holding [ov] (getMethod ov m pl)
      callWith pos f first (backTo pos (starEach [] X.env)) (backToKw pos (keywordEach [] X.env))) := by rfl) :
    PE X (.Call (.Attribute o m apos) [] [] pos) (tMethR C m sp E0 ta tNil) := by
  have ⟨f, hm, F⟩ := c.ex
  refine ⟨fun pins s σ H Q I h => ?_⟩
  refine PySem.W.methodCall_KW (pl := pl) (thn (he.run pins s σ H _ I h) fun u s1 ⟨x, H1, I1, rx, a, dx, fs, ex, ea, l, q⟩ => ?_) ht
  subst ex
  obtain rfl : u = Value.ref a := rx
  refine getmeth_ok I1 ea c.cl hm l ?_
  exact PySem.W.callWith_K0 (first := [.ref a]) I1.kIn hm.kp (wpAny_call (run_fnR (us := [.ref a]) (vs := [.ref a]) F (hr.mono hk) pass0 I1 (.cons rfl .nil) q))
end
end Ls

namespace Ls
open PySem PySem.Spec PyProof.Rows L2
section
variable {X : Cx} {W : WX} {E : XK} {o e : Expr} {es : List Expr} {ta : TE} {t : TA} {p pos apos : Pos} {x m : Str} {k j : Nat} {sp : Sp} {C : Addr} {pl : Sem Bool}
/-- o.m(e, ..) that may raise -/
theorem pe_mx (c : MetX X.prog X.w X.K X.mg X.base k C m sp) (tk : Takes X W) (hE : ∀ cls d σ H, E cls d H → W cls d σ H) (hr : Room j X.A) (hk : k ≤ j) (he : PE X o ta) (ha : PA X (e :: es) t)
    (hst : starEach (e :: es) X.env = (false, eval e X.env) :: starEach es X.env := by rfl) (hpl : (backTo pos (starEach es X.env)).any (·.1) = false := by rfl)
    (ht : eval (.Call (.Attribute o m apos) (e :: es) [] pos) X.env = (do
      let ov ← eval o X.env
      standAt apos.atName
      let (f, first) ← holding [ov] (getMethod ov m pl)
      callWith pos f first (backTo pos (starEach (e :: es) X.env)) (backToKw pos (keywordEach [] X.env))) := by rfl) :
    PE X (.Call (.Attribute o m apos) (e :: es) [] pos) (tMeth C m sp [] E ta t) := by
  have ⟨f, fd, ps, hm, F, b⟩ := c.ex
  exact pe_meth he c.cl hm F (hr.mono hk) b .nil (passes_call tk hE) ha hst hpl ht
end
end Ls

/-! ### a def called with keywords -/
namespace Ls
open PySem PySem.Spec PyProof.Rows L2
structure CalK (P : Program) (w : World) (K : PySem.W.Frag) (mg : Str → Option Value) (base : Heap) (k : Nat) (x : Str) (sp : Sp) (n : Nat) (ks : List Str) (gV : List V → List V → List V) : Prop where
  ex : ∃ (f : Addr) (fd : FuncData) (ps : List Str) (g : List Value → List Value → List Value), FnOk P w K mg base CX0 k f fd ps sp ∧ mg x = some (.ref f) ∧ PySem.W.keepIn K (.ref f) = true ∧ ps ≠ [] ∧ KBn K fd ps n ks g gV
def gIf (n m : Nat) (gV : List V → List V → List V) (vs zs : List V) : List V := if vs.length = n ∧ zs.length = m then gV vs zs else []
section
variable {X : Cx} {e : Expr} {es : List Expr} {kws : List Keyword} {t tk : TA} {p pos : Pos} {x : Str} {k j n : Nat} {sp : Sp} {ks : List Str} {gV : List V → List V → List V}
theorem pe_ck (c : CalK X.prog X.w X.K X.mg X.base k x sp n ks gV) (hr : Room j X.A) (hk : k ≤ j) (hg : Gl X x) (ha : PA X (e :: es) t) (hkw : PK X kws tk)
    (hall : (backToKw pos (keywordEach kws X.env)).all (·.1.isSome) = true := by rfl) (hks : (backToKw pos (keywordEach kws X.env)).filterMap (·.1) = ks := by rfl) (hdb : (x == ("__debug__" : Str)) = false := by decide)
    (he : starEach (e :: es) X.env = (false, eval e X.env) :: starEach es X.env := by rfl) (hpl : ((backTo pos (starEach (e :: es) X.env)).any (·.1) || (backToKw pos (keywordEach kws X.env)).any (·.1.isNone)) = false := by rfl) :
    PE X (.Call (.Name x p) (e :: es) kws pos) (tCallK sp (gIf n ks.length gV) E0 t tk) := by
  have ⟨f, fd, ps, g, F, hm, kp, hps, b⟩ := c.ex
  have KB : KBinds X.K fd ps ks (fun us ws => if us.length = n ∧ ws.length = ks.length then g us ws else []) (gIf n ks.length gV) := by
    refine ⟨fun s us ws X hl => ?_, fun {vs us zs ws} r rz => ?_⟩
    · by_cases h : us.length = n ∧ ws.length = ks.length
      · rw [if_pos h]
        exact b.to s us ws X h.1 h.2
      · rw [if_neg h] at hl
        exact absurd (List.length_eq_zero_iff.mp hl.symm) hps
    · unfold gIf
      by_cases h : us.length = n ∧ ws.length = ks.length
      · rw [if_pos h, if_pos ⟨by rw [r.length]; exact h.1, by rw [rz.length]; exact h.2⟩]
        exact b.rel r rz
      · rw [if_neg h, if_neg fun q => h ⟨by rw [← r.length]; exact q.1, by rw [← rz.length]; exact q.2⟩]
        exact .nil
  exact pe_callK F (hr.mono hk) hg hm kp KB pass0 ha hkw hall hks hdb he hpl
end
end Ls

namespace K1
open PySem PySem.Spec PyProof.Rows L2 Ls
/-! ### the text by places -/
def top (i : Nat) : Stmt := PySem.Challenge.pw_loopsheds_k12_formula_texts.main.body.getD i (.Pass ⟨0, 0, 0, 0⟩)
abbrev s_BadText___init__ : Stmt := inClass (top 2) 0
abbrev s_is_word : Stmt := top 7
abbrev s_u_length : Stmt := top 8
abbrev s_words_of : Stmt := top 9
abbrev s_Reader___init__ : Stmt := inClass (top 10) 0
abbrev s_Reader_word : Stmt := inClass (top 10) 1
abbrev s_Reader_refuse : Stmt := inClass (top 10) 2
abbrev s_Reader_take : Stmt := inClass (top 10) 3
abbrev s_Reader_take_name : Stmt := inClass (top 10) 4
abbrev s_Reader_take_number : Stmt := inClass (top 10) 5
abbrev s_Reader_term : Stmt := inClass (top 10) 6
abbrev s_Reader_comparison : Stmt := inClass (top 10) 7
abbrev s_Reader_quantified : Stmt := inClass (top 10) 8
abbrev s_Reader_denial : Stmt := inClass (top 10) 9
abbrev s_Reader_row : Stmt := inClass (top 10) 10
abbrev s_Reader_formula : Stmt := inClass (top 10) 11
abbrev s_read_formula : Stmt := top 11
abbrev s_write_atom : Stmt := top 12
abbrev s_write_formula : Stmt := top 13
abbrev s_free_names : Stmt := top 14
abbrev s_u_free : Stmt := top 15
abbrev s_u_law_draw : Stmt := top 17
abbrev s_u_law_atom : Stmt := top 18
abbrev s_u_law_compare : Stmt := top 19
abbrev s_u_law_tree : Stmt := top 20
abbrev s_u_law_text_of : Stmt := top 21
abbrev s_u_law_text : Stmt := top 22
abbrev s_u_law_free : Stmt := top 23
abbrev s_u_law_refused : Stmt := top 24
abbrev s_u_law_known : Stmt := top 25
abbrev s_law : Stmt := top 26
/-- what the module holds: built-in names free, constants -/
structure Facts (mg : Str → Option Value) : Prop where
  len_ : mg "len" = none
  range_ : mg "range" = none
  enumerate_ : mg "enumerate" = none
  isinstance_ : mg "isinstance" = none
  tuple_ : mg "tuple" = none
  list_ : mg "list" = none
  int_ : mg "int" = none
  str_ : mg "str" = none
  all_ : mg "all" = none
  abs_ : mg "abs" = none
  ValueError_ : mg "ValueError" = none
  reversed_ : mg "reversed" = none
  FIGURES : ∃ t, mg "FIGURES" = some (.int 4 t)
abbrev FnP (K : PySem.W.Frag) (x : Str) (st : Stmt) (dvs : List V) (f : Addr) (fd : FuncData) : Prop := FunD K x x (defArgs st) (defBody st) (defScope st) dvs [] f fd
theorem hu_of {k : Nat} {A : Around} (h : Room k A) : A.units + 1 < cLine := by have := h.un; omega
theorem noFree {ns : List (Str × NameKind)} {cs : List (Str × Addr)} (h : (ns.all fun y => decide (y.2 ≠ .free)) = true) : ∀ y ∈ ns, y.2 = .free → ∃ c, cs.lookup y.1 = some c := fun y hy e => by
  have := List.all_eq_true.mp h y hy
  exact absurd e (of_decide_eq_true this)
theorem between_small (c : Nat) : (!decide ([c] < ("a" : Str).cps.toList) && !decide (("z" : Str).cps.toList < [c])) = Df.isSmall c := by
  have e1 : ("a" : Str).cps.toList = [97] := by decide +kernel
  have e2 : ("z" : Str).cps.toList = [122] := by decide +kernel
  rw [e1, e2]
  have l1 : decide ([c] < [97]) = decide (c < 97) := decide_eq_decide.mpr (by simp [List.cons_lt_cons_iff])
  have l2 : decide ([122] < [c]) = decide (122 < c) := decide_eq_decide.mpr (by simp [List.cons_lt_cons_iff])
  rw [l1, l2]
  unfold Df.isSmall
  rw [← decide_not, ← decide_not]
  congr 1 <;> exact decide_eq_decide.mpr (by omega)
theorem inV_strs (x : Str) : ∀ ws : List Str, inV (V.str x) (ws.map V.str) = ws.contains x
  | [] => rfl
  | y :: ws => by
    have ih := inV_strs x ws
    unfold inV at ih ⊢
    rw [List.map_cons, List.any_cons, ih, List.contains_cons]
    congr 1
    show (y == x) = (x == y)
    rw [Bool.eq_iff_iff, beq_iff_eq, beq_iff_eq]
    exact eq_comm
theorem flatS (ns : List Str) : (ns.map V.str).all flatV = true := by
  rw [List.all_eq_true]
  intro v hv
  obtain ⟨x, _, rfl⟩ := List.mem_map.mp hv
  rfl
def spIsWord (Pt : Addr) : Sp := fun vs H Q _ => ∃ x : Str, vs = [.str x] ∧ x.length ≤ 1000000 ∧ GxR.TabG H Pt ∧ ∀ H', GxR.Tabbed Pt H H' → Q (.bl (Df.isNameW x)) H'
section
variable {P : Program} {w : World} {K : PySem.W.Frag} {mg : Str → Option Value} {base : Heap} {f W c Pt : Addr} {fd : FuncData} {k : Nat}
theorem sc_is_word : FnScope ["text", "sign"] ["text"] (defScope s_is_word) := ⟨rfl, rfl, rfl, by decide +kernel, rfl, by decide +kernel, by decide +kernel⟩
theorem ok_is_word (F : FnT K "is_word" s_is_word f fd c) (TB : GxR.TabB base mg c Pt) (G : Facts mg) (hW : mg "WORDS" = some (.ref W)) (tW : ∀ H, SqT K H W (Df.wordsF.map V.str)) : FnOk P w K mg base CX0 1 f fd ["text"] (spIsWord Pt) := by
  refine F.ok sc_is_word (fun vs H Q E h => ?_) (fun A outer s H vs Q E hr h => ?_)
  · obtain ⟨x, rfl, _⟩ := h
    rfl
  · obtain ⟨x, rfl, hx, hT, hk⟩ := h
    have hu := hu_of hr
    refine ⟨_, PSs.nox (pss_one (ps_ret (pe_and (pe_chain op_le op_le pe_int (pe_callB call_len_str (by rfl) G.len_ PySem.boot_len (pa_cons (pv 0) pa_nil)) pe_int) (pe_and (GxR.pe_allS hr (by rfl) G.all_ (by rfl) TB rfl ⟨rfl, rfl, by decide +kernel, by rfl, by rfl, noFree (by decide +kernel)⟩ (pv 0) (elt_between rfl (by rfl)) (fun _ => rfl)) (pe_one (pe_cmpR (kNotIn K) (pv 0) (pe_glob (v := .ref W) (by rfl) hW rfl) (by rfl))))))), ?_⟩
    have hk0 : ∀ b, b = Df.isNameW x → Q (.bl b) H := fun b e => by rw [e]; exact hk H ⟨hT, fun _ _ => rfl⟩
    refine ⟨_, rfl, _, rfl, szl (by omega), _, _, rfl, rfl, _, rfl, ?_⟩
    have d1 : decide ((1 : Int) ≤ (x.length : Int)) = decide (1 ≤ x.length) := decide_eq_decide.mpr (by omega)
    have d2 : decide ((x.length : Int) ≤ 8) = decide (x.length ≤ 8) := decide_eq_decide.mpr (by omega)
    rw [d1]
    cases h1 : decide (1 ≤ x.length) with
    | false => exact iteF ⟨_, rfl, iteF (hk0 _ (by unfold Df.isNameW; rw [h1]; rfl))⟩
    | true =>
      refine iteT ⟨_, _, rfl, rfl, _, rfl, ?_⟩
      rw [d2]
      cases h2 : decide (x.length ≤ 8) with
      | false => exact iteF (hk0 _ (by unfold Df.isNameW; rw [h1, h2]; rfl))
      | true =>
        refine iteT ⟨_, rfl, x, rfl, hT, fun H2 hT2 => ⟨_, rfl, ?_⟩⟩
        have ha : (x.cps.toList.all fun c => !decide ([c] < ("a" : Str).cps.toList) && !decide (("z" : Str).cps.toList < [c])) = x.cps.toList.all Df.isSmall := by
          congr 1
          exact funext between_small
        rw [ha]
        have hk2 : ∀ b, b = Df.isNameW x → Q (.bl b) H2 := fun b e => by rw [e]; exact hk H2 hT2
        cases h3 : x.cps.toList.all Df.isSmall with
        | false => exact iteF (hk2 _ (by unfold Df.isNameW; rw [h1, h2, h3]; rfl))
        | true =>
          refine iteT ⟨_, rfl, W, _, rfl, .inr (tW H2), rfl, flatS _, ?_⟩
          rw [inV_strs]
          exact hk2 _ (by unfold Df.isNameW; rw [h1, h2, h3]; rfl)
end
end K1

namespace K1
open PySem PySem.Spec PyProof.Rows L2 Ls
abbrev csx (x : Str) : List Nat := x.cps.toList
theorem csx_len (x : Str) : x.length = (csx x).length := by simp [Str.length, csx]
theorem cut_signs (x : Str) {i j : Nat} (hi : i ≤ j) : csx (cutS x (some (i : Int)) (some (j : Int))) = ((csx x).drop i).take (j - i) := by
  show (((csx x).drop (HT.sIx x.length 0 (some (i : Int)))).take (HT.sIx x.length x.length (some (j : Int)) - HT.sIx x.length 0 (some (i : Int)))).toArray.toList = _
  rw [HT.sIx_nat, HT.sIx_nat, List.toList_toArray, csx_len]
  by_cases h : i ≤ (csx x).length
  · rw [Nat.min_eq_left h]
    by_cases h2 : j ≤ (csx x).length
    · rw [Nat.min_eq_left h2]
    · rw [Nat.min_eq_right (by omega), List.take_of_length_le (by rw [List.length_drop]; omega), List.take_of_length_le (by rw [List.length_drop]; omega)]
  · rw [Nat.min_eq_right (Nat.le_of_not_le h), List.drop_length, List.drop_eq_nil_of_le (by omega), List.take_nil, List.take_nil]
theorem str_cs {x y : Str} : x = y ↔ csx x = csx y := ⟨fun h => h ▸ rfl, Df.csS_inj⟩
def opsC : List (List Nat) := [[60, 61], [62, 61], [33, 61], [61], [60], [62]]
theorem opsC_eq : Df.opsL.map csx = opsC := by decide +kernel
theorem ops_contains (x : Str) : Df.opsL.contains x = opsC.contains (csx x) := by
  rw [← opsC_eq, Bool.eq_iff_iff, List.contains_iff_mem, List.contains_iff_mem, List.mem_map]
  exact ⟨fun h => ⟨x, h, rfl⟩, fun ⟨y, hy, e⟩ => (Df.csS_inj e) ▸ hy⟩
theorem two_ops (a : Nat) (r : List Nat) : opsC.contains ((a :: r).take 2) = (match r with | [] => a == 61 || (a == 60 || a == 62) | b :: _ => Df.pairOp a b) := by
  cases r with
  | nil =>
    show opsC.contains [a] = _
    rw [Bool.eq_iff_iff, List.contains_iff_mem]
    simp [opsC]
  | cons b r =>
    show opsC.contains [a, b] = _
    rw [Bool.eq_iff_iff, List.contains_iff_mem]
    simp [opsC, Df.pairOp]
    omega
theorem signs_one : ("<>=:()+-" : Str).cps.toList = [60, 62, 61, 58, 40, 41, 43, 45] := by decide +kernel
theorem one_mem (c : Nat) : decide (c ∈ ("<>=:()+-" : Str).cps.toList) = Df.oneSign c := by
  rw [signs_one, Bool.eq_iff_iff, decide_eq_true_iff]
  unfold Df.oneSign
  rw [List.contains_iff_mem]
theorem abc_mem (c : Nat) : decide (c ∈ ("abcdefghijklmnopqrstuvwxyz" : Str).cps.toList) = Df.isSmall c := by
  rw [show ("abcdefghijklmnopqrstuvwxyz" : Str).cps.toList = (List.range 26).map (· + 97) by decide +kernel, Bool.eq_iff_iff, decide_eq_true_iff, List.mem_map]
  unfold Df.isSmall
  simp only [Bool.and_eq_true, decide_eq_true_eq, List.mem_range]
  exact ⟨fun ⟨a, h, e⟩ => by omega, fun h => ⟨c - 97, by omega, by omega⟩⟩
theorem fig_mem (c : Nat) : decide (c ∈ ("0123456789" : Str).cps.toList) = Df.isFig c := by
  rw [show ("0123456789" : Str).cps.toList = (List.range 10).map (· + 48) by decide +kernel, Bool.eq_iff_iff, decide_eq_true_iff, List.mem_map]
  unfold Df.isFig
  simp only [Bool.and_eq_true, decide_eq_true_eq, List.mem_range]
  exact ⟨fun ⟨a, h, e⟩ => by omega, fun h => ⟨c - 48, by omega, by omega⟩⟩
theorem tw_step (q : Nat → Bool) {cs : List Nat} {e : Nat} (h : e < cs.length) : ((cs.drop e).takeWhile q).length = if q cs[e] = true then ((cs.drop (e + 1)).takeWhile q).length + 1 else 0 := by
  rw [List.drop_eq_getElem_cons h, List.takeWhile_cons]
  split <;> rfl
def spLength : Sp := fun vs H Q _ => ∃ (x : Str) (i : Nat), vs = [.str x, .int (i : Nat)] ∧ x.length ≤ 100000 ∧ i < x.length ∧ Q (.int (Df.lenC ((csx x).drop i) : Nat)) H
section
variable {P : Program} {w : World} {K : PySem.W.Frag} {mg : Str → Option Value} {base : Heap} {f W c Pt : Addr} {fd : FuncData} {k : Nat}
theorem sc_u_length : FnScope ["text", "at", "kinds", "end"] ["text", "at"] (defScope s_u_length) := ⟨rfl, rfl, rfl, by decide +kernel, rfl, by decide +kernel, by decide +kernel⟩
theorem ok_length (F : FnP K "_length" s_u_length [] f fd) (G : Facts mg) (hW : mg "OPERATORS" = some (.ref W)) (tW : ∀ H, SqT K H W (Df.opsL.map V.str)) : FnOk P w K mg base CX0 1 f fd ["text", "at"] spLength := by
  refine F.ok sc_u_length (fun vs H Q E h => ?_) (fun cdv A outer s H vs Q E hr h => ?_)
  · obtain ⟨x, i, rfl, _⟩ := h
    rfl
  · obtain ⟨x, i, rfl, hx, hi, hk⟩ := h
    have hu := hu_of hr
    refine ⟨_, PSs.nox (pss_cons (ps_if (pt_cmpR (kIn K) (pe_slice sl_str (pv 0) (po_some (pv 1)) (po_some (pe_op op_add (pv 1) pe_int))) (pe_glob (v := .ref W) (by rfl) hW rfl) (by rfl)) (pss_one (ps_ret pe_int)) pss_nil)
      (pss_cons (ps_if (pt_cmpR op_in_sign (pe_ix ix_str (pv 0) (pv 1) (fun _ _ => rfl)) pe_str (by rfl)) (pss_one (ps_ret pe_int)) pss_nil)
      (pss_cons (ps_set (i := 2) sc_u_length.nd rfl (.inl rfl) (pe_ifExp (pt_chain op_le_str op_le_str pe_str (pe_ix ix_str (pv 0) (pv 1) (fun _ _ => rfl)) pe_str) pe_str pe_str))
      (pss_cons (ps_set (i := 3) sc_u_length.nd rfl (.inl rfl) (pv 1))
      (pss_cons (ps_while PassesOwn.never (PW.pt (pw_and (pt_cmpR op_lt (pv 3) (pe_callB call_len_str (by rfl) G.len_ PySem.boot_len (pa_cons (pv 0) pa_nil)) (nomark _)) (pw_and1 (pt_cmpR op_in_sign (pe_ix ix_str (pv 0) (pv 3) (fun _ _ => rfl)) (pv 2) (by rfl))))) (pss_one (ps_aug (i := 3) sc_u_length.nd rfl (by first | exact .inl rfl | exact .inr rfl) pe_int ip_add)))
      (pss_one (ps_ret (pe_op op_sub (pv 3) (pv 1))))))))), ?_⟩
    have hl : (csx x).length = x.length := (csx_len x).symm
    have hi' : i < (csx x).length := by omega
    have hdr : (csx x).drop i = (csx x)[i] :: (csx x).drop (i + 1) := List.drop_eq_getElem_cons hi'
    have hat : atI (csx x) (i : Int) = some (csx x)[i] := atI_nat (List.getElem?_eq_getElem hi')
    have hsz : x.length ≤ sizeLine := szl (by omega)
    refine ⟨_, rfl, _, rfl, _, rfl, _, rfl, _, _, rfl, rfl, _, rfl, x, rfl, hsz, W, _, rfl, .inr (tW H), rfl, flatS _, _, rfl, ?_⟩
    have e2 : ((i : Int) + 2) = ((i + 2 : Nat) : Int) := by omega
    rw [e2, inV_strs, ops_contains, cut_signs x (by omega), show i + 2 - i = 2 by omega]
    have hlen := two_ops (csx x)[i] ((csx x).drop (i + 1))
    rw [← hdr] at hlen
    rw [hlen]
    have fin : ∀ n : Nat, Df.lenC ((csx x).drop i) = n → Q (.int (n : Nat)) H := fun n e => e ▸ hk
    generalize hc : (csx x)[i] = c at *
    generalize hrr : (csx x).drop (i + 1) = r at *
    cases h1 : (match r with | [] => c == 61 || (c == 60 || c == 62) | b :: _ => Df.pairOp c b) with
    | true =>
      refine iteT (fin 2 ?_)
      rw [hdr]
      cases r with
      | nil =>
        show (if _ then 2 else _) = 2
        rw [if_pos h1]
      | cons b r =>
        rw [Df.lenC2, if_pos h1]
    | false =>
      refine iteF ⟨_, rfl, _, rfl, x, _, _, rfl, rfl, hsz, hat, _, _, rfl, rfl, _, rfl, ?_⟩
      rw [one_mem]
      have hl2 : Df.lenC ((csx x).drop i) = if Df.oneSign c = true then 1 else Df.runC c ((csx x).drop i) := by
        rw [hdr]
        cases r with
        | nil =>
          have h1' : (c == 61 || (c == 60 || c == 62)) = false := h1
          rw [Df.lenC1, if_neg (Bool.eq_false_iff.mp h1')]
        | cons b r =>
          have h1' : Df.pairOp c b = false := h1
          rw [Df.lenC2, if_neg (Bool.eq_false_iff.mp h1')]
      cases h2 : Df.oneSign c with
      | true => exact iteT (fin 1 (by rw [hl2, if_pos h2]))
      | false =>
        rw [if_neg (by rw [h2]; decide)] at hl2
        refine iteF ?_
        have hS : (!decide ([c] < ("a" : Str).cps.toList) && !decide (("z" : Str).cps.toList < [c])) = Df.isSmall c := between_small c
        have hr1 : Df.isSmall c = true → Df.lenC ((csx x).drop i) = (((csx x).drop i).takeWhile Df.isSmall).length := fun h => by
          rw [hl2]
          unfold Df.runC
          rw [if_pos h]
        have hr2 : Df.isSmall c = false → Df.lenC ((csx x).drop i) = (((csx x).drop i).takeWhile Df.isFig).length := fun h => by
          rw [hl2]
          unfold Df.runC
          rw [if_neg (by rw [h]; decide)]
        have loop : ∀ (z : Str) (q : Nat → Bool), (∀ c' : Nat, decide (c' ∈ z.cps.toList) = q c') → Df.lenC ((csx x).drop i) = (((csx x).drop i).takeWhile q).length →
            tSeq (tAsg (tVar 1) (gName 3)) (tSeq (tWhile (tAnd (tTest (tOp (rI0 fun i j => V.bl (decide (i < j))) (tVar 3) (tCB (fun xs H Q => ∃ z, xs = [V.str z] ∧ z.length ≤ sizeLine ∧ Q (V.int z.length) H) (tCons (tVar 0) tNil))))
              (tTest (tOp (fun x y H Q => ∃ (c : Nat) (z : Str), x = V.str ⟨#[c]⟩ ∧ y = V.str z ∧ Q (V.bl (decide (c ∈ z.cps.toList))) H) (tOp rIxS (tVar 0) (tVar 3)) (tVar 2)))) (tAug 3 (tC (V.int 1)) (ipI fun i j => i + j))) (tRet (tOp (rI0 fun i j => V.int (i - j)) (tVar 3) (tVar 1))))
            { nx := fun _ H' => Q V.non H', rt := Q } [some (.str x), some (.int (i : Nat)), some (.str z), none] H := fun z q hz hq => by
          refine ⟨_, rfl, ?_⟩
          refine ⟨fun m σ H' => ∃ e : Nat, i ≤ e ∧ e ≤ x.length ∧ m = x.length - e ∧ σ = [some (.str x), some (.int (i : Nat)), some (.str z), some (.int (e : Nat))] ∧ H' = H ∧ (((csx x).drop i).takeWhile q).length = (e - i) + (((csx x).drop e).takeWhile q).length, ⟨_, i, Nat.le_refl _, by omega, rfl, rfl, rfl, by omega⟩, ?_⟩
          rintro m σ H' ⟨e, h1, h2, rfl, rfl, rfl, hw⟩
          refine ⟨_, rfl, _, rfl, _, rfl, hsz, _, _, rfl, rfl, _, rfl, ?_⟩
          by_cases he : e < x.length
          · have he' : e < (csx x).length := by omega
            rw [show decide ((e : Int) < (x.length : Int)) = true from decide_eq_true (by omega)]
            refine iteT ⟨_, rfl, _, rfl, x, _, _, rfl, rfl, hsz, atI_nat (List.getElem?_eq_getElem he'), _, rfl, _, _, rfl, rfl, _, rfl, ?_⟩
            rw [hz]
            have hst := tw_step q he'
            cases hqe : q (csx x)[e] with
            | true =>
              rw [if_pos hqe] at hst
              refine iteT ⟨fun σ' H2 => σ' = [some (.str x), some (.int (i : Nat)), some (.str z), some (.int ((e + 1 : Nat) : Int))] ∧ H2 = H', ?_, ?_⟩
              · rintro σ' H2 ⟨rfl, rfl⟩
                exact ⟨x.length - (e + 1), by omega, e + 1, by omega, by omega, rfl, rfl, rfl, by omega⟩
              · exact ⟨_, rfl, _, _, rfl, rfl, rfl, rfl⟩
            | false =>
              rw [if_neg (by rw [hqe]; decide)] at hst
              refine iteF ⟨_, rfl, _, rfl, _, _, rfl, rfl, ?_⟩
              have : ((e : Int) - (i : Int)) = ((e - i : Nat) : Int) := by omega
              show Q (.int ((e : Int) - (i : Int))) H'
              rw [this]
              exact fin _ (by omega)
          · rw [show decide ((e : Int) < (x.length : Int)) = false from decide_eq_false (by omega)]
            refine iteF (iteF ⟨_, rfl, _, rfl, _, _, rfl, rfl, ?_⟩)
            have hd0 : (csx x).drop e = [] := List.drop_eq_nil_of_le (by omega)
            rw [hd0] at hw
            have : ((e : Int) - (i : Int)) = ((e - i : Nat) : Int) := by omega
            show Q (.int ((e : Int) - (i : Int))) H'
            rw [this]
            exact fin _ (by rw [hq, hw]; simp)
        refine ⟨_, rfl, _, rfl, x, _, _, rfl, rfl, hsz, hat, _, _, rfl, rfl, _, rfl, ?_⟩
        cases ha : !decide ([c] < ("a" : Str).cps.toList) with
        | false =>
          rw [ha, Bool.false_and] at hS
          refine iteF ⟨_, rfl, iteF ?_⟩
          exact loop _ _ fig_mem (hr2 hS.symm)
        | true =>
          rw [ha, Bool.true_and] at hS
          refine iteT ⟨_, _, rfl, rfl, _, rfl, ?_⟩
          cases hb : !decide (("z" : Str).cps.toList < [c]) with
          | true =>
            rw [hb] at hS
            refine iteT ?_
            exact loop _ _ abc_mem (hr1 hS.symm)
          | false =>
            rw [hb] at hS
            refine iteF ?_
            exact loop _ _ fig_mem (hr2 hS.symm)
end
end K1

namespace K1
open PySem PySem.Spec PyProof.Rows L2 Ls
/-! ### the words of a text -/
def mkS (w : List Nat) : Str := ⟨w.toArray⟩
theorem csx_mk (w : List Nat) : csx (mkS w) = w := rfl
theorem mk_csx (x : Str) : mkS (csx x) = x := Df.csS_inj rfl
/-- the items of a list are pairs of a word and its place -/
def WdAt (H : Hp) (items : List V) (ps : List (Str × Nat)) : Prop := items.length = ps.length ∧ ∀ (i : Nat) (p : Str × Nat), ps[i]? = some p → ∃ t : Addr, items[i]? = some (V.ref t) ∧ H t = some (HO.tup [V.str p.1, V.int (p.2 : Nat)])
theorem WdAt.nil (H : Hp) : WdAt H [] [] := ⟨rfl, fun i p h => by simp at h⟩
theorem WdAt.to {H H' : Hp} {items : List V} {ps : List (Str × Nat)} (h : WdAt H items ps) (s : ∀ b xs, H b = some (.tup xs) → H' b = some (.tup xs)) : WdAt H' items ps := ⟨h.1, fun i p e => by
  obtain ⟨t, h1, h2⟩ := h.2 i p e
  exact ⟨t, h1, s t _ h2⟩⟩
theorem WdAt.snoc {H : Hp} {items : List V} {ps : List (Str × Nat)} (h : WdAt H items ps) {t : Addr} {y : Str} {n : Nat} (ht : H t = some (.tup [.str y, .int (n : Nat)])) : WdAt H (items ++ [.ref t]) (ps ++ [(y, n)]) := by
  refine ⟨by rw [List.length_append, List.length_append, h.1]; rfl, fun i p e => ?_⟩
  by_cases hi : i < ps.length
  · rw [List.getElem?_append_left hi] at e
    obtain ⟨t', h1, h2⟩ := h.2 i p e
    exact ⟨t', by rw [List.getElem?_append_left (by rw [h.1]; exact hi)]; exact h1, h2⟩
  · rw [List.getElem?_append_right (by omega)] at e
    cases hj : i - ps.length with
    | zero =>
      rw [hj] at e
      cases e
      refine ⟨t, ?_, ht⟩
      rw [List.getElem?_append_right (by rw [h.1]; omega), h.1, hj]
      rfl
    | succ j =>
      rw [hj] at e
      cases e
def lexS (cs : List Nat) (e : Nat) : List (List Nat × Nat) ⊕ Nat := Df.lexC (cs.length + 1) e (cs.drop e)
def preL (done : List (List Nat × Nat)) : List (List Nat × Nat) ⊕ Nat → List (List Nat × Nat) ⊕ Nat
  | .inl ps => .inl (done ++ ps)
  | .inr j => .inr j
theorem preL_nil (r : List (List Nat × Nat) ⊕ Nat) : preL [] r = r := by cases r <;> rfl
theorem preL_app (a b : List (List Nat × Nat)) (r : List (List Nat × Nat) ⊕ Nat) : preL a (preL b r) = preL (a ++ b) r := by
  cases r with
  | inl ps => show Sum.inl _ = Sum.inl _; rw [List.append_assoc]
  | inr j => rfl
theorem lexS_end {cs : List Nat} {e : Nat} (h : cs.length ≤ e) : lexS cs e = .inl [] := by
  unfold lexS
  rw [List.drop_eq_nil_of_le h, Df.lexC]
theorem lexS_step {cs : List Nat} {e : Nat} (h : e < cs.length) : lexS cs e = if cs[e] = 32 then lexS cs (e + 1) else match Df.lenC (cs.drop e) with | 0 => .inr e | k + 1 => preL [((cs.drop e).take (k + 1), e)] (lexS cs (e + (k + 1))) := by
  have hdr : cs.drop e = cs[e] :: cs.drop (e + 1) := List.drop_eq_getElem_cons h
  unfold lexS
  rw [hdr, Df.lexC]
  by_cases h32 : cs[e] = 32
  · rw [if_pos h32, if_pos h32]
    exact Df.lexC_fuel _ _ _ _ (by rw [List.length_drop]; omega) (by rw [List.length_drop]; omega)
  · rw [if_neg h32, if_neg h32]
    cases Df.lenC (cs[e] :: cs.drop (e + 1)) with
    | zero => rfl
    | succ k =>
      have hd : (cs[e] :: cs.drop (e + 1)).drop (k + 1) = cs.drop (e + (k + 1)) := by rw [← hdr, List.drop_drop]
      show (match Df.lexC cs.length (e + (k + 1)) ((cs[e] :: cs.drop (e + 1)).drop (k + 1)) with | .inl ws => Sum.inl (((cs[e] :: cs.drop (e + 1)).take (k + 1), e) :: ws) | .inr j => .inr j) = _
      rw [hd, Df.lexC_fuel cs.length (cs.length + 1) _ _ (by rw [List.length_drop]; omega) (by rw [List.length_drop]; omega)]
      show _ = preL [((cs[e] :: cs.drop (e + 1)).take (k + 1), e)] (Df.lexC (cs.length + 1) (e + (k + 1)) (cs.drop (e + (k + 1))))
      generalize Df.lexC (cs.length + 1) (e + (k + 1)) (cs.drop (e + (k + 1))) = R
      cases R <;> rfl
def toS (ps : List (List Nat × Nat)) : List (Str × Nat) := ps.map fun q => (mkS q.1, q.2)
/-- the words of a text with their places, the empty one at the end -/
def wordsT (x : Str) (ps : List (List Nat × Nat)) : List (Str × Nat) := toS ps ++ [(("" : Str), x.length)]
theorem lenC_le (cs : List Nat) : Df.lenC cs ≤ cs.length + 1 := by
  have run : ∀ (a : Nat) (r : List Nat), Df.runC a r ≤ r.length := fun a r => by
    unfold Df.runC
    split <;> exact (List.takeWhile_sublist _).length_le
  match cs with
  | [] => exact Nat.zero_le _
  | [a] =>
    rw [Df.lenC1]
    split
    · simp
    · split
      · simp
      · exact Nat.le_succ_of_le (run a [a])
  | a :: b :: r =>
    rw [Df.lenC2]
    split
    · simp
    · split
      · simp
      · exact Nat.le_succ_of_le (run a (a :: b :: r))
theorem blank_eq (c : Nat) : (V.str ⟨#[c]⟩ = V.str " ") ↔ c = 32 := by
  constructor
  · intro h
    injection h with h
    have := congrArg csx h
    exact (List.cons.inj (show [c] = [32] from this)).1
  · rintro rfl
    rfl
def spWords (CE : Addr) : Sp := fun vs H Q E => ∃ x : Str, vs = [.str x] ∧ x.length ≤ 100000 ∧
  (∀ j, lexS (csx x) 0 = .inr j → ∀ H' d, Same H H' → H d = none → H' d = some (.xd [("column", .int ((j + 1 : Nat) : Int)), ("line", .int 1)]) → E (.ref CE) (some d) H') ∧
  ∀ ps, lexS (csx x) 0 = .inl ps → ∀ H' l items, Same H H' → H l = none → H' l = some (.lst items) → WdAt H' items (wordsT x ps) → Q (.ref l) H'
section
variable {P : Program} {w : World} {K : PySem.W.Frag} {mg : Str → Option Value} {base : Heap} {f W c Pt CE : Addr} {fd : FuncData} {k : Nat}
theorem sc_words_of : FnScope ["text", "found", "at", "many"] ["text"] (defScope s_words_of) := ⟨rfl, rfl, rfl, by decide +kernel, rfl, by decide +kernel, by decide +kernel⟩
theorem ok_words_of (F : FnP K "words_of" s_words_of [] f fd) (G : Facts mg) (BT : ExcS2 P w K mg base "BadText" CE "line" "column") (C_u_length : Cal P w K mg base 1 "_length" spLength []) : FnOk P w K mg base (L2.CX P w) 3 f fd ["text"] (spWords CE) := by
  refine F.ok sc_words_of (fun vs H Q E h => ?_) (fun cdv A outer s H vs Q E hr h => ?_)
  · obtain ⟨x, rfl, _⟩ := h
    rfl
  · obtain ⟨x, rfl, hx, hbad, hgood⟩ := h
    have hu := hu_of hr
    refine ⟨_, (pss_cons (ps_set (i := 1) sc_words_of.nd rfl (.inl rfl) (pe_lst pa_nil))
      (pss_cons (ps_set (i := 2) sc_words_of.nd rfl (.inl rfl) pe_int)
      (pss_cons (ps_while (passes_of rfl) (pt_cmpR op_lt (pv 2) (pe_callB call_len_str (by rfl) G.len_ PySem.boot_len (pa_cons (pv 0) pa_nil)) (nomark _)) (pss_cons (ps_if (pt_cmpR op_eq (pe_ix ix_str (pv 0) (pv 2) (fun _ _ => rfl)) pe_str (nomark _)) (pss_cons (ps_aug (i := 2) sc_words_of.nd rfl (by first | exact .inl rfl | exact .inr rfl) pe_int ip_add)
          (pss_one ps_continue)) pss_nil)
        (pss_cons (ps_set (i := 3) sc_words_of.nd rfl (.inl rfl) (pe_c C_u_length hr (by decide) (by rfl) (pa_cons (pv 0) (pa_cons (pv 2) pa_nil))))
        (pss_cons (ps_if (pt_cmpR op_eq (pv 3) pe_int (nomark _)) (pss_one (ps_raise rfl (takes_of rfl rfl rfl rfl) (pmk_sup2 BT hr (by decide) (by rfl) pe_int (pe_op op_add (pv 2) pe_int)))) pss_nil)
        (pss_cons (ps_expr (pe_bm PySem.F.plainAttrs_list PySem.F.slot_list_append PySem.F.type_list_append mt_append (pv 1) (pa_cons (pe_tup (pa_cons (pe_slice sl_str (pv 0) (po_some (pv 2)) (po_some (pe_op op_add (pv 2) (pv 3)))) (pa_cons (pv 2) pa_nil))) pa_nil)))
        (pss_one (ps_aug (i := 2) sc_words_of.nd rfl (by first | exact .inl rfl | exact .inr rfl) (pv 3) ip_add)))))))
      (pss_cons (ps_expr (pe_bm PySem.F.plainAttrs_list PySem.F.slot_list_append PySem.F.type_list_append mt_append (pv 1) (pa_cons (pe_tup (pa_cons pe_str (pa_cons (pe_callB call_len_str (by rfl) G.len_ PySem.boot_len (pa_cons (pv 0) pa_nil)) pa_nil))) pa_nil)))
      (pss_one (ps_ret (pv 1))))))), ?_⟩
    have hl : (csx x).length = x.length := (csx_len x).symm
    have hsz : x.length ≤ sizeLine := szl (by omega)
    refine ⟨by show 0 ≤ sizeLine; decide, fun l nl => ?_⟩
    have s1 := same_upd nl (o := .lst [])
    refine ⟨fun m σ H' => ∃ (e : Nat) (z : Option V) (items : List V) (done : List (List Nat × Nat)), e ≤ x.length + 1 ∧ m = x.length + 1 - e ∧ σ = [some (.str x), some (.ref l), some (.int (e : Nat)), z] ∧ Same H H' ∧ H' l = some (.lst items) ∧ WdAt H' items (toS done) ∧ done.length ≤ e ∧ lexS (csx x) 0 = preL done (lexS (csx x) e),
      ⟨_, 0, none, [], [], by omega, rfl, rfl, s1, upd_same, .nil _, Nat.le_refl _, (preL_nil _).symm⟩, ?_⟩
    rintro m σ H' ⟨e, z, items, done, he1, rfl, rfl, s2, hl2, hw, hdl, hlex⟩
    refine ⟨_, rfl, _, rfl, _, rfl, hsz, _, _, rfl, rfl, _, rfl, ?_⟩
    by_cases he : e < x.length
    · rw [show decide ((e : Int) < (x.length : Int)) = true from decide_eq_true (by omega)]
      have he' : e < (csx x).length := by omega
      have hat : atI (csx x) (e : Int) = some (csx x)[e] := atI_nat (List.getElem?_eq_getElem he')
      have hst := lexS_step he'
      refine ⟨fun σ' H2 => ∃ (e' : Nat) (z' : Option V) (items' : List V) (done' : List (List Nat × Nat)), e' ≤ x.length + 1 ∧ e < e' ∧ σ' = [some (.str x), some (.ref l), some (.int (e' : Nat)), z'] ∧ Same H H2 ∧ H2 l = some (.lst items') ∧ WdAt H2 items' (toS done') ∧ done'.length ≤ e' ∧ lexS (csx x) 0 = preL done' (lexS (csx x) e'), ?_, ?_⟩
      · rintro σ' H2 ⟨e', z', items', done', g1, g2, g3, g4, g5, g6, g7, g8⟩
        exact ⟨x.length + 1 - e', by omega, e', z', items', done', g1, rfl, g3, g4, g5, g6, g7, g8⟩
      · refine ⟨_, rfl, _, rfl, x, _, _, rfl, rfl, hsz, hat, rfl, _, rfl, ?_⟩
        generalize (csx x)[e] = ch at hst
        rw [show decide (V.str ⟨#[ch]⟩ = V.str " ") = decide (ch = 32) from decide_eq_decide.mpr (blank_eq ch)]
        by_cases h32 : ch = 32
        · rw [decide_eq_true h32]
          rw [if_pos h32] at hst
          refine iteT ⟨_, rfl, _, _, rfl, rfl, e + 1, z, items, done, by omega, by omega, rfl, s2, hl2, hw, by omega, ?_⟩
          rw [hlex, hst]
        · rw [decide_eq_false h32]
          rw [if_neg h32] at hst
          refine iteF ⟨_, rfl, _, rfl, x, e, rfl, hx, he, ?_⟩
          generalize hlc : Df.lenC ((csx x).drop e) = n at hst
          refine ⟨_, rfl, rfl, _, rfl, ?_⟩
          cases n with
          | zero =>
            rw [show decide (V.int ((0 : Nat) : Int) = V.int 0) = true from decide_eq_true rfl]
            refine iteT ⟨_, rfl, _, _, rfl, rfl, ?_⟩
            refine mk2 fun d H2 s3 nd hd => ?_
            have := hbad e (by rw [hlex]; exact congrArg (preL done) hst) H2 d (s2.trans s3) (s2.free nd)
            exact this hd
          | succ n =>
            rw [show decide (V.int ((n + 1 : Nat) : Int) = V.int 0) = false from decide_eq_false (by intro z; injection z with z; omega)]
            refine iteF ⟨_, rfl, .inl ⟨rfl, _, sq hl2⟩, _, rfl, _, rfl, _, rfl, _, rfl, _, rfl, _, _, rfl, rfl, _, rfl, x, rfl, hsz, _, rfl, by show 2 ≤ sizeLine; decide, fun t nt => ?_⟩
            have s3 := same_upd nt (o := .tup [V.str (cutS x (some (e : Int)) (some ((e : Int) + ((n + 1 : Nat) : Int)))), V.int (e : Nat)])
            have hl3 := s3 _ _ hl2
            have ht : (upd H' t (.tup [V.str (cutS x (some (e : Int)) (some ((e : Int) + ((n + 1 : Nat) : Int)))), V.int (e : Nat)])) t = some (.tup [V.str (cutS x (some (e : Int)) (some ((e : Int) + ((n + 1 : Nat) : Int)))), V.int (e : Nat)]) := upd_same
            have hw3 := hw.to (fun b xs q => s3 b _ q)
            generalize upd H' t (.tup [V.str (cutS x (some (e : Int)) (some ((e : Int) + ((n + 1 : Nat) : Int)))), V.int (e : Nat)]) = H3 at s3 hl3 ht hw3 ⊢
            rw [show ((e : Int) + ((n + 1 : Nat) : Int)) = ((e + (n + 1) : Nat) : Int) by omega] at ht
            have hlw : items.length ≤ 100000 := by
              have := hw.1
              rw [this]
              show (done.map _).length ≤ _
              rw [List.length_map]
              omega
            refine ⟨l, items, .ref t, rfl, rfl, hl3, szlt (by omega), ?_⟩
            have hln : n + 1 ≤ (x.length - e) + 1 := by
              have := lenC_le ((csx x).drop e)
              rw [hlc, List.length_drop, hl] at this
              exact this
            have hy : cutS x (some (e : Int)) (some ((e + (n + 1) : Nat) : Int)) = mkS (((csx x).drop e).take (n + 1)) := Df.csS_inj (by rw [show Df.csS (cutS x (some (e : Int)) (some ((e + (n + 1) : Nat) : Int))) = _ from cut_signs x (by omega), show e + (n + 1) - e = n + 1 by omega]; rfl)
            rw [hy] at ht
            have hw4 := hw3.snoc ht
            have hne : t ≠ l := fun z => by subst z; rw [hl2] at nt; cases nt
            refine ⟨_, rfl, _, rfl, _, _, rfl, rfl, e + (n + 1), some (.int ((n + 1 : Nat) : Int)), items ++ [.ref t], done ++ [(((csx x).drop e).take (n + 1), e)], ?_, by omega, rfl, same_mut (s2.trans s3) nl, upd_same, ?_, ?_, ?_⟩
            · omega
            · rw [show toS (done ++ [(((csx x).drop e).take (n + 1), e)]) = toS done ++ [(mkS (((csx x).drop e).take (n + 1)), e)] by simp [toS]]
              refine hw4.to fun b xs q => ?_
              rw [upd_ne (fun z => by subst z; rw [hl3] at q; cases q)]
              exact q
            · rw [List.length_append]
              show done.length + 1 ≤ _
              omega
            · rw [hlex, hst]
              show preL done (preL _ _) = _
              rw [preL_app]
    · rw [show decide ((e : Int) < (x.length : Int)) = false from decide_eq_false (by omega)]
      refine iteF ⟨_, rfl, .inl ⟨rfl, _, sq hl2⟩, _, rfl, _, rfl, hsz, by show 2 ≤ sizeLine; decide, fun t nt => ?_⟩
      have s3 := same_upd nt (o := .tup [V.str "", V.int (x.length : Nat)])
      have hl3 := s3 _ _ hl2
      have ht : (upd H' t (.tup [V.str "", V.int (x.length : Nat)])) t = some (.tup [V.str "", V.int (x.length : Nat)]) := upd_same
      have hw3 := hw.to (fun b xs q => s3 b _ q)
      generalize upd H' t (.tup [V.str "", V.int (x.length : Nat)]) = H3 at s3 hl3 ht hw3 ⊢
      have hlw : items.length ≤ 100001 := by
        have := hw.1
        rw [this]
        show (done.map _).length ≤ _
        rw [List.length_map]
        omega
      refine ⟨l, items, .ref t, rfl, rfl, hl3, szlt (by omega), ⟨_, rfl, ?_⟩⟩
      have hend := lexS_end (cs := csx x) (e := e) (by omega)
      rw [hend] at hlex
      refine hgood done (hlex.trans (by simp [preL])) _ l (items ++ [.ref t]) (same_mut (s2.trans s3) nl) nl upd_same ?_
      refine (hw3.snoc ht).to fun b xs q => ?_
      rw [upd_ne (fun z => by subst z; rw [hl3] at q; cases q)]
      exact q
end
end K1

namespace K1
open PySem PySem.Spec PyProof.Rows L2 Ls
/-! ### the reader -/
abbrev NnP (K : PySem.W.Frag) (x q : Str) (st : Stmt) (f : Addr) (fd : FuncData) : Prop := FunD K x q (defArgs st) (defBody st) (defScope st) [] [] f fd
/-- words with places, as the lexer tells them -/
structure WOk (ps : List (Str × Nat)) : Prop where
  last : ∃ (qs : List (Str × Nat)) (n : Nat), ps = qs ++ [(("" : Str), n)] ∧ ∀ q ∈ qs, q.1 ≠ ("" : Str)
  ascii : ∀ q ∈ ps, ∀ c ∈ csx q.1, c < 128
  num : ∀ q ∈ ps, Df.isNumW q.1 = true → q.1.length = 1
  len : ∀ q ∈ ps, q.1.length ≤ 100000
  cnt : ps.length ≤ 990
def wsOf (ps : List (Str × Nat)) (h : Nat) : List Str := (ps.drop h).map (·.1)
theorem hd_ws {ps : List (Str × Nat)} {h : Nat} {p : Str × Nat} (e : ps[h]? = some p) : Df.hd (wsOf ps h) = p.1 := by
  obtain ⟨hl, e⟩ := List.getElem?_eq_some_iff.mp e
  unfold wsOf
  rw [List.drop_eq_getElem_cons hl, e]
  rfl
theorem tl_ws (ps : List (Str × Nat)) (h : Nat) : (wsOf ps h).tail = wsOf ps (h + 1) := by
  unfold wsOf
  rw [← List.map_tail, List.tail_drop]
theorem WOk.next {ps : List (Str × Nat)} (w : WOk ps) {h : Nat} {p : Str × Nat} (e : ps[h]? = some p) (hp : p.1 ≠ ("" : Str)) : h + 1 < ps.length := by
  obtain ⟨qs, n, rfl, _⟩ := w.last
  obtain ⟨hl, e⟩ := List.getElem?_eq_some_iff.mp e
  rw [List.length_append] at hl ⊢
  by_cases hh : h < qs.length
  · simp only [List.length_cons, List.length_nil]
    omega
  · exfalso
    rw [List.getElem_append_right (by omega)] at e
    simp only [List.length_cons, List.length_nil] at hl
    have : h - qs.length = 0 := by omega
    simp only [this, List.getElem_cons_zero] at e
    exact hp (by rw [← e])
structure RCls (K : PySem.W.Frag) (C : Addr) : Prop where
  cl : Cls K C
  nW : NoAttr K C "words"
  nH : NoAttr K C "here"
  nA : NoAttr K C "around"
def fsR (W A : Addr) (h : Nat) : List (Str × V) := putF ("around" : Str) (.ref A) (putF ("here" : Str) (.int (h : Nat)) (putF ("words" : Str) (.ref W) []))
theorem fsR_eq (W A : Addr) (h : Nat) : fsR W A h = [(("words" : Str), .ref W), (("here" : Str), .int (h : Nat)), (("around" : Str), .ref A)] := rfl
/-- the reader at place h, with the names around -/
structure RdAt (C : Addr) (H : Hp) (r W A : Addr) (ps : List (Str × Nat)) (h : Nat) (ar : List Str) : Prop where
  ex : ∃ (dx : Addr) (items : List V), H r = some (.ins C dx (fsR W A h)) ∧ H W = some (.lst items) ∧ WdAt H items ps ∧ H A = some (.lst (ar.map V.str)) ∧ W ≠ A
  lt : h < ps.length
  ok : WOk ps
  ars : ar.length ≤ h
/-- all but the reader, its names and the table is kept -/
def KR (r A Pt : Addr) (H H' : Hp) : Prop := ∀ b o, b ≠ r → b ≠ A → b ≠ Pt → H b = some o → H' b = some o
theorem KR.refl {r A Pt : Addr} {H : Hp} : KR r A Pt H H := fun _ _ _ _ _ e => e
theorem KR.trans {r A Pt : Addr} {H1 H2 H3 : Hp} (h : KR r A Pt H1 H2) (g : KR r A Pt H2 H3) : KR r A Pt H1 H3 := fun b o n1 n2 n3 e => g b o n1 n2 n3 (h b o n1 n2 n3 e)
theorem KR.same {r A Pt : Addr} {H1 H2 : Hp} (s : Same H1 H2) : KR r A Pt H1 H2 := fun b o _ _ _ e => s b o e
theorem KR.tab {r A Pt : Addr} {H1 H2 : Hp} (s : GxR.Tabbed Pt H1 H2) : KR r A Pt H1 H2 := fun b o _ _ n e => (s.2 b n).trans e
theorem KR.upd {r A Pt : Addr} {H : Hp} {o : HO} : KR r A Pt H (upd H r o) := fun b o' n _ _ e => by rw [upd_ne n]; exact e
theorem KR.updA {r A Pt : Addr} {H : Hp} {o : HO} : KR r A Pt H (L2.upd H A o) := fun b o' _ n _ e => by rw [upd_ne n]; exact e
/-- a change besides -/
theorem RdAt.to {C : Addr} {H H' : Hp} {r W A : Addr} {ps : List (Str × Nat)} {h : Nat} {ar : List Str} (R : RdAt C H r W A ps h ar) (s : ∀ b o, (∀ q, o ≠ .tbl q) → H b = some o → H' b = some o) : RdAt C H' r W A ps h ar := by
  obtain ⟨dx, items, h1, h2, h3, h4, h5⟩ := R.ex
  exact ⟨⟨dx, items, s _ _ (fun q z => by cases z) h1, s _ _ (fun q z => by cases z) h2, h3.to (fun b xs e => s b _ (fun q z => by cases z) e), s _ _ (fun q z => by cases z) h4, h5⟩, R.lt, R.ok, R.ars⟩
theorem RdAt.mono {C : Addr} {H H' : Hp} {r W A : Addr} {ps : List (Str × Nat)} {h : Nat} {ar : List Str} (R : RdAt C H r W A ps h ar) (s : Same H H') : RdAt C H' r W A ps h ar := R.to fun b o _ e => s b o e
theorem RdAt.tab {C Pt : Addr} {H H' : Hp} {r W A : Addr} {ps : List (Str × Nat)} {h : Nat} {ar : List Str} (R : RdAt C H r W A ps h ar) (hT : GxR.TabG H Pt) (s : GxR.Tabbed Pt H H') : RdAt C H' r W A ps h ar := R.to fun b o n e => by
  refine (s.2 b fun z => ?_).trans e
  subst z
  obtain ⟨q, hq, _⟩ := hT
  rw [e] at hq
  exact n q (Option.some.inj hq)
theorem TabG.mono {Pt : Addr} {H H' : Hp} (h : GxR.TabG H Pt) (s : Same H H') : GxR.TabG H' Pt := by
  obtain ⟨q, e, ok⟩ := h
  exact ⟨q, s _ _ e, ok⟩
/-- the next word is taken -/
theorem RdAt.step {C : Addr} {H : Hp} {r W A : Addr} {ps : List (Str × Nat)} {h : Nat} {ar : List Str} (R : RdAt C H r W A ps h ar) {dx : Addr} (hr : H r = some (.ins C dx (fsR W A h))) (hl : h + 1 < ps.length) : RdAt C (upd H r (.ins C dx (fsR W A (h + 1)))) r W A ps (h + 1) ar := by
  obtain ⟨dx', items, h1, h2, h3, h4, h5⟩ := R.ex
  have n1 : W ≠ r := fun z => by subst z; rw [h1] at h2; cases h2
  have n2 : A ≠ r := fun z => by subst z; rw [h1] at h4; cases h4
  refine ⟨⟨dx, items, upd_same, by rw [upd_ne n1]; exact h2, h3.to fun b xs e => ?_, by rw [upd_ne n2]; exact h4, h5⟩, hl, R.ok, Nat.le_succ_of_le R.ars⟩
  rw [upd_ne fun z => by subst z; rw [h1] at e; cases e]
  exact e
theorem RdAt.get {C : Addr} {H : Hp} {r W A : Addr} {ps : List (Str × Nat)} {h : Nat} {ar : List Str} (R : RdAt C H r W A ps h ar) : ∃ p, ps[h]? = some p := ⟨_, List.getElem?_eq_getElem R.lt⟩
def spWord (C : Addr) : Sp := fun vs H Q _ => ∃ (r W A : Addr) (ps : List (Str × Nat)) (h : Nat) (ar : List Str) (p : Str × Nat), vs = [.ref r] ∧ RdAt C H r W A ps h ar ∧ ps[h]? = some p ∧ Q (.str p.1) H
def spRefuse (C CE : Addr) : Sp := fun vs H _ E => ∃ (r W A : Addr) (ps : List (Str × Nat)) (h : Nat) (ar : List Str) (p : Str × Nat), vs = [.ref r] ∧ RdAt C H r W A ps h ar ∧ ps[h]? = some p ∧
  ∀ H' d, Same H H' → H d = none → H' d = some (.xd [("column", .int ((p.2 + 1 : Nat) : Int)), ("line", .int 1)]) → E (.ref CE) (some d) H'
section
variable {P : Program} {w : World} {K : PySem.W.Frag} {mg : Str → Option Value} {base : Heap} {f W c Pt C CE : Addr} {fd : FuncData} {k : Nat}
theorem sc_Reader_word : FnScope ["self"] ["self"] (defScope s_Reader_word) := ⟨rfl, rfl, rfl, by decide +kernel, rfl, by decide +kernel, by decide +kernel⟩
theorem ok_word (F : NnP K "word" "Reader.word" s_Reader_word f fd) (G : Facts mg) (RC : RCls K C) : FnOk P w K mg base CX0 1 f fd ["self"] (spWord C) := by
  refine F.ok sc_Reader_word (fun vs H Q E h => ?_) (fun cdv A outer s H vs Q E hr h => ?_)
  · obtain ⟨r, W, A, ps, h, ar, p, rfl, _⟩ := h
    rfl
  · obtain ⟨r, W, A', ps, h, ar, p, rfl, hR, hp, hk⟩ := h
    have hu := hu_of hr
    refine ⟨_, PSs.nox (pss_one (ps_ret (pe_ix (kIxT K) (pe_ix (kIxL K) (kfld K (pv 0)) (kfld K (pv 0)) (fun _ _ => rfl)) pe_int (fun _ _ => rfl)))), ?_⟩
    obtain ⟨dx, items, h1, h2, h3, h4, h5⟩ := hR.ex
    obtain ⟨t, g1, g2⟩ := h3.2 h p hp
    refine ⟨_, rfl, r, C, dx, _, _, rfl, h1, RC.cl, RC.nW, rfl, _, rfl, r, C, dx, _, _, rfl, h1, RC.cl, RC.nH, rfl, W, _, _, _, rfl, rfl, sq h2, atI_nat g1, t, _, _, _, rfl, rfl, sqt g2, atI_nat (j := 0) rfl, ?_⟩
    exact hk
theorem sc_Reader_refuse : FnScope ["self"] ["self"] (defScope s_Reader_refuse) := ⟨rfl, rfl, rfl, by decide +kernel, rfl, by decide +kernel, by decide +kernel⟩
theorem ok_refuse (F : NnP K "refuse" "Reader.refuse" s_Reader_refuse f fd) (G : Facts mg) (RC : RCls K C) (BT : ExcS2 P w K mg base "BadText" CE "line" "column") : FnOk P w K mg base (L2.CX P w) 3 f fd ["self"] (spRefuse C CE) := by
  refine F.ok sc_Reader_refuse (fun vs H Q E h => ?_) (fun cdv A outer s H vs Q E hr h => ?_)
  · obtain ⟨r, W, A, ps, h, ar, p, rfl, _⟩ := h
    rfl
  · obtain ⟨r, W, A', ps, h, ar, p, rfl, hR, hp, hk⟩ := h
    have hu := hu_of hr
    refine ⟨_, (pss_one (ps_raise rfl (takes_of rfl rfl rfl rfl) (pmk_sup2 BT hr (by decide) (by rfl) pe_int (pe_op op_add (pe_ix (kIxT K) (pe_ix (kIxL K) (kfld K (pv 0)) (kfld K (pv 0)) (fun _ _ => rfl)) pe_int (fun _ _ => rfl)) pe_int)))), ?_⟩
    obtain ⟨dx, items, h1, h2, h3, h4, h5⟩ := hR.ex
    obtain ⟨t, g1, g2⟩ := h3.2 h p hp
    refine ⟨_, rfl, r, C, dx, _, _, rfl, h1, RC.cl, RC.nW, rfl, _, rfl, r, C, dx, _, _, rfl, h1, RC.cl, RC.nH, rfl, W, _, _, _, rfl, rfl, sq h2, atI_nat g1, t, _, _, _, rfl, rfl, sqt g2, atI_nat (j := 1) rfl, _, _, rfl, rfl, ?_⟩
    refine mk2 fun d H2 s3 nd hd => hk H2 d s3 nd hd
end
end K1

namespace K1
open PySem PySem.Spec PyProof.Rows L2 Ls
/-! ### what a method of the reader answers -/
/-- where the reader stands, for short -/
structure RC where
  (C CE Pt r W A : Addr)
  ps : List (Str × Nat)
  ar : List Str
abbrev RC.At (c : RC) (H : Hp) (h : Nat) : Prop := RdAt c.C H c.r c.W c.A c.ps h c.ar
abbrev RC.Kp (c : RC) (H H' : Hp) : Prop := KR c.r c.A c.Pt H H'
abbrev RC.T (c : RC) (H : Hp) : Prop := GxR.TabG H c.Pt
def RC.N (c : RC) : Addr → Prop := fun b => b ≠ c.r ∧ b ≠ c.A ∧ b ≠ c.Pt
def RdOut (c : RC) (H : Hp) {α : Type} (val : α → V → Hp → Prop) (a : Df.An α) (Q : VK) (E : XK) : Prop := match a with
  | .ok x ws => ∀ H' h' v, c.Kp H H' → c.At H' h' → wsOf c.ps h' = ws → c.T H' → val x v H' → Q v H'
  | .bad ws => ∀ H' d h' p, c.Kp H H' → c.T H' → c.ps[h']? = some p → wsOf c.ps h' = ws → H' d = some (.xd [("column", .int ((p.2 + 1 : Nat) : Int)), ("line", .int 1)]) → E (.ref c.CE) (some d) H'
  | .out => False
theorem RdOut.mono {c : RC} {H H1 : Hp} {α : Type} {val : α → V → Hp → Prop} {a : Df.An α} {Q : VK} {E : XK} (h : RdOut c H val a Q E) (k : c.Kp H H1) : RdOut c H1 val a Q E := by
  cases a with
  | ok x ws => exact fun H' h' v k2 g1 g2 g3 g4 => h H' h' v (k.trans k2) g1 g2 g3 g4
  | bad ws => exact fun H' d h' p k2 gT g1 g2 g3 => h H' d h' p (k.trans k2) gT g1 g2 g3
  | out => exact h
theorem RdOut.sub {c : RC} {H : Hp} {α β : Type} {val : α → V → Hp → Prop} {val1 : β → V → Hp → Prop} {a : Df.An β} {f : β → List Str → Df.An α} {Q Q1 : VK} {E : XK} (h : RdOut c H val (a.bind f) Q E)
    (k : ∀ x ws H' h' v, a = .ok x ws → c.Kp H H' → c.At H' h' → wsOf c.ps h' = ws → c.T H' → val1 x v H' → RdOut c H' val (f x ws) Q E → Q1 v H') : RdOut c H val1 a Q1 E := by
  cases a with
  | ok x ws => exact fun H' h' v k2 g1 g2 g3 g4 => k x ws H' h' v rfl k2 g1 g2 g3 g4 (h.mono k2)
  | bad ws => exact h
  | out => exact h
def valStr (x : Str) (v : V) (_ : Hp) : Prop := v = .str x
def valInt (n : Int) (v : V) (_ : Hp) : Prop := v = .int n
def valU (_ : Unit) (v : V) (_ : Hp) : Prop := v = .non
def atD (a : Str × Int) : PyData := .tuple [.str a.1, .int a.2]
def valAt (c : RC) (a : Str × Int) (v : V) (H : Hp) : Prop := Dt c.N H v (atD a)
mutual
def fmD : Df.Fm → PyData
  | .cmp op l r => .tuple [.str "compare", .str op, atD l, atD r]
  | .no f => .tuple [.str "not", fmD f]
  | .q k n f => .tuple [.str k, .str n, fmD f]
  | .row k fs => .tuple [.str k, .tuple (fmDs fs)]
def fmDs : List Df.Fm → List PyData
  | [] => []
  | f :: fs => fmD f :: fmDs fs
end
def valFm (c : RC) (f : Df.Fm) (v : V) (H : Hp) : Prop := Dt c.N H v (fmD f)
theorem TabG.upd_ins {Pt r : Addr} {H : Hp} (h : GxR.TabG H Pt) {C dx C2 dx2 : Addr} {fs fs2 : List (Str × V)} (hr : H r = some (.ins C dx fs)) : GxR.TabG (upd H r (.ins C2 dx2 fs2)) Pt := by
  obtain ⟨q, e, ok⟩ := h
  exact ⟨q, by rw [upd_ne fun z => by subst z; rw [hr] at e; cases e]; exact e, ok⟩
/-- a method without arguments -/
def spM (C CE Pt : Addr) {α : Type} (val : RC → α → V → Hp → Prop) (g : List Str → List Str → Df.An α) : Sp := fun vs H Q E => ∃ (c : RC) (h : Nat), c.C = C ∧ c.CE = CE ∧ c.Pt = Pt ∧ vs = [.ref c.r] ∧ c.At H h ∧ c.T H ∧ RdOut c H (val c) (g c.ar (wsOf c.ps h)) Q E
def spM1 (C CE Pt : Addr) {α : Type} (val : RC → α → V → Hp → Prop) (g : Str → List Str → List Str → Df.An α) : Sp := fun vs H Q E => ∃ (c : RC) (h : Nat) (x : Str), c.C = C ∧ c.CE = CE ∧ c.Pt = Pt ∧ vs = [.ref c.r, .str x] ∧ c.At H h ∧ c.T H ∧ RdOut c H (val c) (g x c.ar (wsOf c.ps h)) Q E
def spTake (C CE Pt : Addr) : Sp := fun vs H Q E => ∃ (c : RC) (h : Nat) (x : Str), c.C = C ∧ c.CE = CE ∧ c.Pt = Pt ∧ vs = [.ref c.r, .str x] ∧ x ≠ "" ∧ c.At H h ∧ c.T H ∧ RdOut c H valU (Df.takeR x (wsOf c.ps h)) Q E
theorem lookupR (m : Str) (h : decide (m = "words" ∨ m = "here" ∨ m = "around") = false) (W A : Addr) (n : Nat) : (fsR W A n).lookup m = none := by
  have h := of_decide_eq_false h
  rw [fsR_eq]
  have e : ∀ x : Str, m ≠ x → (m == x) = false := fun x n => beq_eq_false_iff_ne.mpr n
  simp only [List.lookup, e _ (fun z => h (.inl z)), e _ (fun z => h (.inr (.inl z))), e _ (fun z => h (.inr (.inr z)))]
section
variable {P : Program} {w : World} {K : PySem.W.Frag} {mg : Str → Option Value} {base : Heap} {f W Pt C CE : Addr} {fd : FuncData} {k : Nat}
theorem sc_Reader_take : FnScope ["self", "word"] ["self", "word"] (defScope s_Reader_take) := ⟨rfl, rfl, rfl, by decide +kernel, rfl, by decide +kernel, by decide +kernel⟩
theorem ok_take (F : NnP K "take" "Reader.take" s_Reader_take f fd) (G : Facts mg) (RK : RCls K C) (S_word : MetS P w K mg base 1 C "word" (spWord C)) (X_refuse : MetX P w K mg base 3 C "refuse" (spRefuse C CE)) : FnOk P w K mg base (L2.CX P w) 4 f fd ["self", "word"] (spTake C CE Pt) := by
  refine F.ok sc_Reader_take (fun vs H Q E h => ?_) (fun cdv A outer s H vs Q E hr h => ?_)
  · obtain ⟨c, h, x, _, _, _, rfl, _⟩ := h
    rfl
  · obtain ⟨c, h, x, rfl, rfl, rfl, rfl, hx, hR, hT, ho⟩ := h
    have hu := hu_of hr
    refine ⟨_, (pss_cons (ps_if (pt_cmpR op_ne (pe_ms0 S_word hr (by decide) (pv 0)) (pv 1) (nomark _)) (pss_one (ps_expr (pe_mx0 X_refuse (takes_of rfl rfl rfl rfl) (fun _ _ _ _ h => h) hr (by decide) (pv 0)))) pss_nil)
      (pss_one (ps_fldaug (pv 0) pe_int ip_add))), ?_⟩
    obtain ⟨dx, items, h1, h2, h3, h4, h5⟩ := hR.ex
    obtain ⟨p, hp⟩ := hR.get
    refine ⟨_, rfl, c.r, dx, _, rfl, h1, lookupR _ (by decide +kernel) _ _ _, c.r, c.W, c.A, c.ps, h, c.ar, p, rfl, hR, hp, _, rfl, rfl, _, rfl, ?_⟩
    unfold Df.takeR at ho
    rw [hd_ws hp, tl_ws] at ho
    by_cases hpx : p.1 = x
    · rw [if_pos hpx] at ho
      rw [show (!decide (V.str p.1 = V.str x)) = false by rw [hpx]; simp]
      refine iteF ⟨_, rfl, c.r, c.C, dx, _, _, rfl, h1, RK.cl, RK.nH, rfl, _, _, rfl, rfl, dx, _, h1, by show 3 < 1000; decide, ?_⟩
      have hl := hR.ok.next hp (by rw [hpx]; exact hx)
      exact ho _ (h + 1) .non KR.upd (hR.step h1 hl) rfl (TabG.upd_ins hT h1) rfl
    · rw [if_neg hpx] at ho
      rw [show (!decide (V.str p.1 = V.str x)) = true by simp [hpx]]
      refine iteT ⟨_, rfl, c.r, dx, _, rfl, h1, lookupR _ (by decide +kernel) _ _ _, c.r, c.W, c.A, c.ps, h, c.ar, p, rfl, hR, hp, ?_⟩
      exact fun H' d s3 nd hd => ho H' d h p (KR.same s3) (TabG.mono hT s3) hp rfl hd
theorem sc_Reader_take_name : FnScope ["self", "found"] ["self"] (defScope s_Reader_take_name) := ⟨rfl, rfl, rfl, by decide +kernel, rfl, by decide +kernel, by decide +kernel⟩
theorem ok_take_name (F : NnP K "take_name" "Reader.take_name" s_Reader_take_name f fd) (G : Facts mg) (RK : RCls K C) (S_word : MetS P w K mg base 1 C "word" (spWord C)) (X_refuse : MetX P w K mg base 3 C "refuse" (spRefuse C CE)) (C_is_word : Cal P w K mg base 1 "is_word" (spIsWord Pt) []) :
    FnOk P w K mg base (L2.CX P w) 4 f fd ["self"] (spM C CE Pt (fun _ => valStr) fun _ => Df.nameR) := by
  refine F.ok sc_Reader_take_name (fun vs H Q E h => ?_) (fun cdv A outer s H vs Q E hr h => ?_)
  · obtain ⟨c, h, _, _, _, rfl, _⟩ := h
    rfl
  · obtain ⟨c, h, rfl, rfl, rfl, rfl, hR, hT, ho⟩ := h
    have hu := hu_of hr
    refine ⟨_, (pss_cons (ps_set (i := 1) sc_Reader_take_name.nd rfl (.inl rfl) (pe_ms0 S_word hr (by decide) (pv 0)))
      (pss_cons (ps_if (pt_not (pt_val (pe_c C_is_word hr (by decide) (by rfl) (pa_cons (pv 1) pa_nil)))) (pss_one (ps_expr (pe_mx0 X_refuse (takes_of rfl rfl rfl rfl) (fun _ _ _ _ h => h) hr (by decide) (pv 0)))) pss_nil)
      (pss_cons (ps_fldaug (pv 0) pe_int ip_add)
      (pss_one (ps_ret (pv 1)))))), ?_⟩
    obtain ⟨dx, items, h1, h2, h3, h4, h5⟩ := hR.ex
    obtain ⟨p, hp⟩ := hR.get
    have ho : RdOut c H valStr (Df.nameR (wsOf c.ps h)) Q E := ho
    unfold Df.nameR at ho
    rw [hd_ws hp, tl_ws] at ho
    have hpl := hR.ok.len p (List.mem_of_getElem? hp)
    refine ⟨_, rfl, c.r, dx, _, rfl, h1, lookupR _ (by decide +kernel) _ _ _, c.r, c.W, c.A, c.ps, h, c.ar, p, rfl, hR, hp, ?_⟩
    refine ⟨_, rfl, p.1, rfl, by omega, hT, fun H2 hT2 => ⟨_, rfl, ?_⟩⟩
    have hR2 := hR.tab hT hT2
    have k2 : c.Kp H H2 := KR.tab hT2
    have hT2' := hT2.1
    obtain ⟨dx2, items2, g1, g2, g3, g4, g5⟩ := hR2.ex
    cases hn : Df.isNameW p.1 with
    | true =>
      rw [if_pos hn] at ho
      refine iteF ⟨_, rfl, c.r, c.C, dx2, _, _, rfl, g1, RK.cl, RK.nH, rfl, _, _, rfl, rfl, dx2, _, g1, by show 3 < 1000; decide, _, rfl, ?_⟩
      have hl := hR.ok.next hp (fun z => by rw [z] at hn; exact absurd hn (by decide +kernel))
      exact ho _ (h + 1) _ (k2.trans KR.upd) (hR2.step g1 hl) rfl (TabG.upd_ins hT2' g1) rfl
    | false =>
      rw [if_neg (by rw [hn]; decide)] at ho
      refine iteT ⟨_, rfl, c.r, dx2, _, rfl, g1, lookupR _ (by decide +kernel) _ _ _, c.r, c.W, c.A, c.ps, h, c.ar, p, rfl, hR2, hp, ?_⟩
      exact fun H' d s3 nd hd => ho H' d h p (k2.trans (KR.same s3)) (TabG.mono hT2' s3) hp rfl hd
theorem digit_ascii : ∀ c < 128, Unicode.isDigit c = Df.isFig c := by decide +kernel
theorem all_congr' {α : Type} {p q : α → Bool} : ∀ {l : List α}, (∀ a ∈ l, p a = q a) → l.all p = l.all q
  | [], _ => rfl
  | a :: l, h => by rw [List.all_cons, List.all_cons, h a List.mem_cons_self, all_congr' fun b hb => h b (List.mem_cons_of_mem _ hb)]
theorem isdigit_figs {x : Str} (h : ∀ c ∈ csx x, c < 128) : Txt.isdigit x = Df.isFigsW x := by
  have e : x.cps.all Unicode.isDigit = (csx x).all Unicode.isDigit := by rw [← Array.all_toList]
  have e2 : (csx x).all Unicode.isDigit = (csx x).all Df.isFig := all_congr' fun c hc => digit_ascii c (h c hc)
  show (decide (x.length > 0) && x.cps.all Unicode.isDigit) = (decide (1 ≤ x.length) && (csx x).all Df.isFig)
  rw [e, e2]
  congr 1
theorem one_digit : ∀ c < 58, 48 ≤ c → PySem.intText? (mkS [c]) = some (Df.numOf (mkS [c])) := by decide +kernel
theorem num_figs {x : Str} (h : Df.isFigsW x = false) : Df.isNumW x = false := by
  unfold Df.isFigsW at h
  unfold Df.isNumW
  cases c1 : decide (1 ≤ x.length) with
  | false => rfl
  | true =>
    rw [c1, Bool.true_and] at h
    rw [h]
    rfl
theorem tyStr (x : Str) (H : Hp) {K : PySem.W.Frag} : tyV K "str" (.str x) H := rfl
theorem sc_Reader_take_number : FnScope ["self", "found"] ["self"] (defScope s_Reader_take_number) := ⟨rfl, rfl, rfl, by decide +kernel, rfl, by decide +kernel, by decide +kernel⟩
theorem ok_take_number (F : NnP K "take_number" "Reader.take_number" s_Reader_take_number f fd) (G : Facts mg) (RK : RCls K C) (S_word : MetS P w K mg base 1 C "word" (spWord C)) (X_refuse : MetX P w K mg base 3 C "refuse" (spRefuse C CE)) :
    FnOk P w K mg base (L2.CX P w) 4 f fd ["self"] (spM C CE Pt (fun _ => valInt) fun _ => Df.numR) := by
  refine F.ok sc_Reader_take_number (fun vs H Q E h => ?_) (fun cdv A outer s H vs Q E hr h => ?_)
  · obtain ⟨c, h, _, _, _, rfl, _⟩ := h
    rfl
  · obtain ⟨c, h, rfl, rfl, rfl, rfl, hR, hT, ho⟩ := h
    have hu := hu_of hr
    refine ⟨_, (pss_cons (ps_set (i := 1) sc_Reader_take_number.nd rfl (.inl rfl) (pe_ms0 S_word hr (by decide) (pv 0)))
      (pss_cons (ps_if (PW.pt (pw_or (pt_not (pt_val (pe_bm0 PySem.F.plainAttrs_str PySem.F.slot_str_isdigit PySem.F.type_str_isdigit mt_isdigit (pv 1)))) (pw_or (pt_cmpR op_gt (pe_callB call_len_str (by rfl) G.len_ PySem.boot_len (pa_cons (pv 1) pa_nil)) (pe_gi (by rfl) G.FIGURES) (nomark _)) (pw_or1 (PW.pt (pw_and (pt_cmpR op_ne (pv 1) pe_str (nomark _)) (pw_and1 (pt_cmpR op_eq (pe_ix ix_str (pv 1) pe_int (fun _ _ => rfl)) pe_str (nomark _))))))))) (pss_one (ps_expr (pe_mx0 X_refuse (takes_of rfl rfl rfl rfl) (fun _ _ _ _ h => h) hr (by decide) (pv 0)))) pss_nil)
      (pss_cons (ps_fldaug (pv 0) pe_int ip_add)
      (pss_one (ps_ret (pe_callTy call_int_str (by rfl) G.int_ (by decide +kernel) (pa_cons (pv 1) pa_nil))))))), ?_⟩
    obtain ⟨dx, items, h1, h2, h3, h4, h5⟩ := hR.ex
    obtain ⟨p, hp⟩ := hR.get
    have ho : RdOut c H valInt (Df.numR (wsOf c.ps h)) Q E := ho
    unfold Df.numR at ho
    rw [hd_ws hp, tl_ws] at ho
    have hm := List.mem_of_getElem? hp
    have hpl := hR.ok.len p hm
    refine ⟨_, rfl, c.r, dx, _, rfl, h1, lookupR _ (by decide +kernel) _ _ _, c.r, c.W, c.A, c.ps, h, c.ar, p, rfl, hR, hp, ?_⟩
    have hfig := isdigit_figs (hR.ok.ascii p hm)
    have hsz : p.1.length ≤ sizeLine := szl (by omega)
    refine ⟨_, rfl, tyStr _ _, p.1, rfl, rfl, True.intro, _, rfl, ?_⟩
    rw [hfig]
    cases c1 : Df.isFigsW p.1 with
    | false =>
      refine iteT ?_
      have e : Df.isNumW p.1 = false := num_figs c1
      rw [if_neg (by rw [e]; decide)] at ho
      refine ⟨_, rfl, c.r, dx, _, rfl, h1, lookupR _ (by decide +kernel) _ _ _, c.r, c.W, c.A, c.ps, h, c.ar, p, rfl, hR, hp, ?_⟩
      exact fun H' d s3 nd hd => ho H' d h p (KR.same s3) (TabG.mono hT s3) hp rfl hd
    | true =>
      refine iteF ⟨_, rfl, _, rfl, hsz, _, _, rfl, rfl, _, rfl, ?_⟩
      rw [show decide ((4 : Int) < (p.1.length : Int)) = !decide (p.1.length ≤ 4) by rw [Bool.eq_iff_iff]; simp; omega]
      have hf := c1
      unfold Df.isFigsW at hf
      simp only [Bool.and_eq_true, decide_eq_true_eq] at hf
      have hNum : Df.isNumW p.1 = (decide (p.1.length ≤ 4) && (decide (p.1 = "0") || decide ((csx p.1).head? ≠ some 48))) := by
        unfold Df.isNumW
        rw [decide_eq_true hf.1, hf.2]
        rfl
      cases c2 : decide (p.1.length ≤ 4) with
      | false =>
        refine iteT ?_
        have e : Df.isNumW p.1 = false := by rw [hNum, c2]; rfl
        rw [if_neg (by rw [e]; decide)] at ho
        refine ⟨_, rfl, c.r, dx, _, rfl, h1, lookupR _ (by decide +kernel) _ _ _, c.r, c.W, c.A, c.ps, h, c.ar, p, rfl, hR, hp, ?_⟩
        exact fun H' d s3 nd hd => ho H' d h p (KR.same s3) (TabG.mono hT s3) hp rfl hd
      | true =>
        rw [c2, Bool.true_and] at hNum
        obtain ⟨c0, rest, hcs⟩ : ∃ c0 rest, csx p.1 = c0 :: rest := by
          cases q : csx p.1 with
          | nil =>
            have := csx_len p.1
            rw [q] at this
            exact absurd hf.1 (by rw [this]; decide)
          | cons a r => exact ⟨a, r, rfl⟩
        have hat0 : atI (csx p.1) ((0 : Nat) : Int) = some c0 := atI_nat (by rw [hcs]; rfl)
        have good : Df.isNumW p.1 = true → sFldAug (cxOf (CX P w) P w K mg base ["self", "found"] "Reader.take_number" (defScope s_Reader_take_number) f cdv A outer s H E).K (tVar 0) (tC (V.int 1)) (ipI fun i j => i + j) "here"
            { nx := fun σ' H' => tRet (tCB (fun xs H Q => ∃ a n, xs = [V.str a] ∧ intText? a = some n ∧ a.length ≤ 640 ∧ Q (V.int n) H) (tCons (tVar 1) tNil)) { nx := fun _ H' => Q V.non H', rt := Q } σ' H', rt := Q } [some (.ref c.r), some (.str p.1)] H := fun e => by
          rw [if_pos e] at ho
          have hl1 := hR.ok.num p hm e
          have hr0 : rest = [] := by
            have := csx_len p.1
            rw [hcs, hl1] at this
            simpa using this
          subst hr0
          have hpm : p.1 = mkS [c0] := Df.csS_inj hcs
          have hc0 : Df.isFig c0 = true := by
            have := hf.2
            rw [show p.1.cps.toList = [c0] from hcs] at this
            simpa using this
          unfold Df.isFig at hc0
          simp only [Bool.and_eq_true, decide_eq_true_eq] at hc0
          have hint := one_digit c0 (by omega) hc0.1
          rw [← hpm] at hint
          refine ⟨_, rfl, c.r, c.C, dx, _, _, rfl, h1, RK.cl, RK.nH, rfl, _, _, rfl, rfl, dx, _, h1, by show 3 < 1000; decide, _, rfl, _, _, rfl, hint, by omega, ?_⟩
          have hl := hR.ok.next hp (fun z => by rw [z] at e; exact absurd e (by decide +kernel))
          exact ho _ (h + 1) _ KR.upd (hR.step h1 hl) rfl (TabG.upd_ins hT h1) rfl
        refine iteF ⟨_, rfl, rfl, _, rfl, ?_⟩
        by_cases c3 : p.1 = "0"
        · rw [show (!decide (V.str p.1 = V.str "0")) = false by rw [c3]; simp]
          exact iteF (iteF (good (by rw [hNum, c3]; rfl)))
        · rw [show (!decide (V.str p.1 = V.str "0")) = true by simp [c3]]
          refine iteT ⟨_, rfl, p.1, _, _, rfl, rfl, hsz, hat0, rfl, _, rfl, ?_⟩
          have h48 : decide (V.str ⟨#[c0]⟩ = V.str "0") = decide (c0 = 48) := decide_eq_decide.mpr ⟨fun z => by
            injection z with z
            exact (List.cons.inj (show [c0] = [48] from congrArg csx z)).1, fun z => by rw [z]; rfl⟩
          rw [h48]
          by_cases c4 : c0 = 48
          · rw [decide_eq_true c4]
            refine iteT ?_
            have e : Df.isNumW p.1 = false := by rw [hNum, hcs, c4, decide_eq_false c3]; rfl
            rw [if_neg (by rw [e]; decide)] at ho
            refine ⟨_, rfl, c.r, dx, _, rfl, h1, lookupR _ (by decide +kernel) _ _ _, c.r, c.W, c.A, c.ps, h, c.ar, p, rfl, hR, hp, ?_⟩
            exact fun H' d s3 nd hd => ho H' d h p (KR.same s3) (TabG.mono hT s3) hp rfl hd
          · rw [decide_eq_false c4]
            exact iteF (good (by rw [hNum, hcs, decide_eq_false c3, Bool.false_or]; exact decide_eq_true (by simpa using c4)))
end
end K1

namespace K1
open PySem PySem.Spec PyProof.Rows L2 Ls
theorem name_len {x : Str} (h : Df.isNameW x = true) : x.length ≤ 1000 ∧ PySem.PyData.strOk x = true := by
  unfold Df.isNameW at h
  simp only [Bool.and_eq_true, decide_eq_true_eq] at h
  refine ⟨by omega, ?_⟩
  show x.cps.all (· < 0x110000) = true
  rw [← Array.all_toList, List.all_eq_true]
  intro c hc
  have := List.all_eq_true.mp h.2.2.1 c hc
  unfold Df.isSmall at this
  simp only [Bool.and_eq_true, decide_eq_true_eq] at this
  exact decide_eq_true (by omega)
theorem RC.free {c : RC} {H : Hp} {h : Nat} (R : c.At H h) (T : c.T H) {t : Addr} (nt : H t = none) : c.N t := by
  obtain ⟨dx, items, h1, h2, h3, h4, h5⟩ := R.ex
  obtain ⟨q, hq, _⟩ := T
  exact ⟨fun z => (by rw [z, h1] at nt; cases nt), fun z => (by rw [z, h4] at nt; cases nt), fun z => (by rw [z, hq] at nt; cases nt)⟩
theorem at_dt {c : RC} {H : Hp} {t : Addr} {x : Str} {i : Int} (n : c.N t) (hx : x.length ≤ 1000 ∧ PySem.PyData.strOk x = true) (e : H t = some (.tup [.str x, .int i])) : Dt c.N H (.ref t) (atD (x, i)) :=
  .tup ⟨n, by show 2 ≤ 1000; decide⟩ e (.cons (.str hx) (.cons (.int i) .nil))
theorem at_fin {c : RC} {H : Hp} {h : Nat} {ws : List Str} {x : Str} {i : Int} {Q : VK} {E : XK} (R : c.At H h) (e : wsOf c.ps h = ws) (T : c.T H) (hx : x.length ≤ 1000 ∧ PySem.PyData.strOk x = true) (ho : RdOut c H (valAt c) (.ok (x, i) ws) Q E) : ∀ t, H t = none → Q (.ref t) (upd H t (.tup [.str x, .int i])) := fun t nt =>
  ho _ h _ (KR.same (same_upd nt)) (R.mono (same_upd nt)) e (TabG.mono T (same_upd nt)) (at_dt (RC.free R T nt) hx upd_same)
theorem nameR_is {ws ws' : List Str} {x : Str} (h : Df.nameR ws = .ok x ws') : Df.isNameW x = true := by
  unfold Df.nameR at h
  split at h
  · rename_i e
    injection h with h1 _
    rw [← h1]
    exact e
  · cases h
theorem zero_ok : ("0" : Str).length ≤ 1000 ∧ PySem.PyData.strOk "0" = true := by decide +kernel
section
variable {P : Program} {w : World} {K : PySem.W.Frag} {mg : Str → Option Value} {base : Heap} {f W Pt C CE : Addr} {fd : FuncData} {k : Nat}
theorem sc_Reader_term : FnScope ["self", "name", "sign", "shift"] ["self"] (defScope s_Reader_term) := ⟨rfl, rfl, rfl, by decide +kernel, rfl, by decide +kernel, by decide +kernel⟩
theorem ok_term (F : NnP K "term" "Reader.term" s_Reader_term f fd) (G : Facts mg) (RK : RCls K C) (S_word : MetS P w K mg base 1 C "word" (spWord C)) (X_take_number : MetX P w K mg base 4 C "take_number" (spM C CE Pt (fun _ => valInt) fun _ => Df.numR)) (X_take_name : MetX P w K mg base 4 C "take_name" (spM C CE Pt (fun _ => valStr) fun _ => Df.nameR)) :
    FnOk P w K mg base (L2.CX P w) 5 f fd ["self"] (spM C CE Pt valAt fun _ => Df.termR) := by
  refine F.ok sc_Reader_term (fun vs H Q E h => ?_) (fun cdv A outer s H vs Q E hr h => ?_)
  · obtain ⟨c, h, _, _, _, rfl, _⟩ := h
    rfl
  · obtain ⟨c, h, rfl, rfl, rfl, rfl, hR, hT, ho⟩ := h
    have hu := hu_of hr
    refine ⟨_, (pss_cons (ps_if (pt_cmpR op_eq (pe_ms0 S_word hr (by decide) (pv 0)) pe_str (nomark _)) (pss_cons (ps_fldaug (pv 0) pe_int ip_add)
        (pss_one (ps_ret (pe_tup (pa_cons pe_str (pa_cons (pe_op op_sub pe_int (pe_mx0 X_take_number (takes_of rfl rfl rfl rfl) (fun _ _ _ _ h => h) hr (by decide) (pv 0))) pa_nil)))))) pss_nil)
      (pss_cons (ps_if (pt_val (pe_bm0 PySem.F.plainAttrs_str PySem.F.slot_str_isdigit PySem.F.type_str_isdigit mt_isdigit (pe_ms0 S_word hr (by decide) (pv 0)))) (pss_one (ps_ret (pe_tup (pa_cons pe_str (pa_cons (pe_mx0 X_take_number (takes_of rfl rfl rfl rfl) (fun _ _ _ _ h => h) hr (by decide) (pv 0)) pa_nil))))) pss_nil)
      (pss_cons (ps_set (i := 1) sc_Reader_term.nd rfl (.inl rfl) (pe_mx0 X_take_name (takes_of rfl rfl rfl rfl) (fun _ _ _ _ h => h) hr (by decide) (pv 0)))
      (pss_cons (ps_if (pt_cmpR (kIn K) (pe_ms0 S_word hr (by decide) (pv 0)) (pe_tup (pa_cons pe_str (pa_cons pe_str pa_nil))) (by rfl)) (pss_cons (ps_set (i := 2) sc_Reader_term.nd rfl (.inl rfl) (pe_ms0 S_word hr (by decide) (pv 0)))
        (pss_cons (ps_fldaug (pv 0) pe_int ip_add)
        (pss_cons (ps_set (i := 3) sc_Reader_term.nd rfl (.inl rfl) (pe_mx0 X_take_number (takes_of rfl rfl rfl rfl) (fun _ _ _ _ h => h) hr (by decide) (pv 0)))
        (pss_one (ps_ret (pe_tup (pa_cons (pv 1) (pa_cons (pe_ifExp (pt_cmpR op_eq (pv 2) pe_str (nomark _)) (pv 3) (pe_op op_sub pe_int (pv 3))) pa_nil)))))))) pss_nil)
      (pss_one (ps_ret (pe_tup (pa_cons (pv 1) (pa_cons pe_int pa_nil))))))))), ?_⟩
    obtain ⟨dx, items, h1, h2, h3, h4, h5⟩ := hR.ex
    obtain ⟨p, hp⟩ := hR.get
    have ho : RdOut c H (valAt c) (Df.termR (wsOf c.ps h)) Q E := ho
    unfold Df.termR at ho
    rw [hd_ws hp, tl_ws] at ho
    have hm := List.mem_of_getElem? hp
    have hpl := hR.ok.len p hm
    refine ⟨_, rfl, c.r, dx, _, rfl, h1, lookupR _ (by decide +kernel) _ _ _, c.r, c.W, c.A, c.ps, h, c.ar, p, rfl, hR, hp, rfl, _, rfl, ?_⟩
    by_cases c1 : p.1 = "-"
    · rw [if_pos c1] at ho
      rw [show decide (V.str p.1 = V.str "-") = true by simp [c1]]
      refine iteT ⟨_, rfl, c.r, c.C, dx, _, _, rfl, h1, RK.cl, RK.nH, rfl, _, _, rfl, rfl, dx, _, h1, by show 3 < 1000; decide, ?_⟩
      have hl := hR.ok.next hp (fun z => by rw [z] at c1; exact absurd c1 (by decide +kernel))
      have R2 := hR.step h1 hl
      have T2 := TabG.upd_ins (C2 := c.C) (dx2 := dx) (fs2 := fsR c.W c.A (h + 1)) hT h1
      have h1' : (upd H c.r (.ins c.C dx (fsR c.W c.A (h + 1)))) c.r = some (.ins c.C dx (fsR c.W c.A (h + 1))) := upd_same
      have ho2 := ho.mono (KR.upd (o := .ins c.C dx (fsR c.W c.A (h + 1))))
      refine ⟨_, rfl, c.r, dx, _, rfl, h1', lookupR _ (by decide +kernel) _ _ _, c, h + 1, rfl, rfl, rfl, rfl, R2, T2, ho2.sub fun x ws H' h' v hq k2 R3 e3 T3 hv ho3 => ?_⟩
      cases hv
      exact ⟨_, _, rfl, rfl, by show 2 ≤ sizeLine; decide, at_fin R3 e3 T3 zero_ok ho3⟩
    · rw [if_neg c1] at ho
      rw [show decide (V.str p.1 = V.str "-") = false by simp [c1]]
      refine iteF ⟨_, rfl, c.r, dx, _, rfl, h1, lookupR _ (by decide +kernel) _ _ _, c.r, c.W, c.A, c.ps, h, c.ar, p, rfl, hR, hp, tyStr _ _, p.1, rfl, rfl, True.intro, _, rfl, ?_⟩
      rw [isdigit_figs (hR.ok.ascii p hm)]
      cases c2 : Df.isFigsW p.1 with
      | true =>
        rw [if_pos c2] at ho
        refine iteT ⟨_, rfl, c.r, dx, _, rfl, h1, lookupR _ (by decide +kernel) _ _ _, c, h, rfl, rfl, rfl, rfl, hR, hT, ho.sub fun x ws H' h' v hq k2 R3 e3 T3 hv ho3 => ?_⟩
        cases hv
        exact ⟨by show 2 ≤ sizeLine; decide, at_fin R3 e3 T3 zero_ok ho3⟩
      | false =>
        rw [if_neg (by rw [c2]; decide)] at ho
        refine iteF ⟨_, rfl, c.r, dx, _, rfl, h1, lookupR _ (by decide +kernel) _ _ _, c, h, rfl, rfl, rfl, rfl, hR, hT, ho.sub fun x ws H' h' v hq k2 R3 e3 T3 hv ho3 => ?_⟩
        cases hv
        have hx := name_len (nameR_is hq)
        subst e3
        obtain ⟨dx3, items3, q1, q2, q3, q4, q5⟩ := R3.ex
        obtain ⟨p', hp'⟩ := R3.get
        rw [hd_ws hp', tl_ws] at ho3
        refine ⟨_, rfl, c.r, dx3, _, rfl, q1, lookupR _ (by decide +kernel) _ _ _, c.r, c.W, c.A, c.ps, h', c.ar, p', rfl, R3, hp', by show 2 ≤ sizeLine; decide, fun t nt => ⟨t, _, rfl, .inr (sqt upd_same), rfl, rfl, _, rfl, ?_⟩⟩
        have s4 := same_upd nt (o := .tup [V.str "+", V.str "-"])
        have R4 := R3.mono s4
        have T4 := TabG.mono T3 s4
        have ho4 := ho3.mono (KR.same s4)
        have q1' := s4 _ _ q1
        generalize upd H' t (.tup [V.str "+", V.str "-"]) = H4 at s4 R4 T4 ho4 q1' ⊢
        rw [show inV (V.str p'.1) [V.str "+", V.str "-"] = [("+" : Str), "-"].contains p'.1 from inV_strs p'.1 [("+" : Str), "-"]]
        have stepN : ∀ {β : Prop}, p'.1 ≠ "" → (h' + 1 < c.ps.length → β) → β := fun hne k => k (R3.ok.next hp' hne)
        by_cases c3 : p'.1 = "+" ∨ p'.1 = "-"
        · rw [show [("+" : Str), "-"].contains p'.1 = true by rcases c3 with e | e <;> rw [e] <;> decide +kernel]
          have hl := R3.ok.next hp' (fun z => by rw [z] at c3; rcases c3 with e | e <;> exact absurd e (by decide +kernel))
          have R5 := R4.step q1' hl
          have T5 := TabG.upd_ins (C2 := c.C) (dx2 := dx3) (fs2 := fsR c.W c.A (h' + 1)) T4 q1'
          have q5' : (upd H4 c.r (.ins c.C dx3 (fsR c.W c.A (h' + 1)))) c.r = some (.ins c.C dx3 (fsR c.W c.A (h' + 1))) := upd_same
          have ho5 := ho4.mono (KR.upd (o := .ins c.C dx3 (fsR c.W c.A (h' + 1))))
          refine iteT ⟨_, rfl, c.r, dx3, _, rfl, q1', lookupR _ (by decide +kernel) _ _ _, c.r, c.W, c.A, c.ps, h', c.ar, p', rfl, R4, hp', ?_⟩
          refine ⟨_, rfl, c.r, c.C, dx3, _, _, rfl, q1', RK.cl, RK.nH, rfl, _, _, rfl, rfl, dx3, _, q1', by show 3 < 1000; decide, ?_⟩
          have go : ∀ (sg : Int → Int), RdOut c (upd H4 c.r (.ins c.C dx3 (fsR c.W c.A (h' + 1)))) (valAt c) ((Df.numR (wsOf c.ps (h' + 1))).bind fun n ws => .ok (x, sg n) ws) Q E → True := fun _ _ => True.intro
          by_cases c4 : p'.1 = "+"
          · rw [if_pos c4] at ho5
            refine ⟨_, rfl, c.r, dx3, _, rfl, q5', lookupR _ (by decide +kernel) _ _ _, c, h' + 1, rfl, rfl, rfl, rfl, R5, T5, ho5.sub fun n ws H6 h6 v6 hq6 k6 R6 e6 T6 hv6 ho6 => ?_⟩
            cases hv6
            refine ⟨_, rfl, _, rfl, rfl, _, rfl, ?_⟩
            rw [show decide (V.str p'.1 = V.str "+") = true by simp [c4]]
            exact iteT ⟨_, rfl, by show 2 ≤ sizeLine; decide, at_fin R6 e6 T6 hx ho6⟩
          · have c5 := c3.resolve_left c4
            rw [if_neg c4, if_pos c5] at ho5
            refine ⟨_, rfl, c.r, dx3, _, rfl, q5', lookupR _ (by decide +kernel) _ _ _, c, h' + 1, rfl, rfl, rfl, rfl, R5, T5, ho5.sub fun n ws H6 h6 v6 hq6 k6 R6 e6 T6 hv6 ho6 => ?_⟩
            cases hv6
            refine ⟨_, rfl, _, rfl, rfl, _, rfl, ?_⟩
            rw [show decide (V.str p'.1 = V.str "+") = false by simp [c4]]
            exact iteF ⟨_, rfl, _, _, rfl, rfl, by show 2 ≤ sizeLine; decide, at_fin R6 e6 T6 hx ho6⟩
        · have c4 : p'.1 ≠ "+" := fun z => c3 (.inl z)
          have c5 : p'.1 ≠ "-" := fun z => c3 (.inr z)
          rw [show [("+" : Str), "-"].contains p'.1 = false by rw [Bool.eq_false_iff]; intro z; rcases List.mem_cons.mp (List.contains_iff_mem.mp z) with e | e; exact c4 e; exact c5 (List.mem_singleton.mp e)]
          rw [if_neg c4, if_neg c5] at ho4
          exact iteF ⟨_, rfl, by show 2 ≤ sizeLine; decide, at_fin R4 rfl T4 hx ho4⟩
end
end K1

namespace K1
open PySem PySem.Spec PyProof.Rows L2 Ls
theorem op_ok {x : Str} (h : x ∈ Df.opsL) : x.length ≤ 1000 ∧ PySem.PyData.strOk x = true := by
  revert x
  decide +kernel
theorem cmp_ok : ("compare" : Str).length ≤ 1000 ∧ PySem.PyData.strOk "compare" = true := by decide +kernel
theorem Dt.kr {c : RC} {H H' : Hp} (k : c.Kp H H') {v : V} {d : PyData} (h : Dt c.N H v d) : Dt c.N H' v d := h.to (fun _ n => n) fun b o n e => k b o n.1 n.2.1 n.2.2 e
section
variable {P : Program} {w : World} {K : PySem.W.Frag} {mg : Str → Option Value} {base : Heap} {f W Pt C CE : Addr} {fd : FuncData} {k : Nat}
theorem sc_Reader_comparison : FnScope ["self", "left", "operator"] ["self"] (defScope s_Reader_comparison) := ⟨rfl, rfl, rfl, by decide +kernel, rfl, by decide +kernel, by decide +kernel⟩
theorem ok_comparison (F : NnP K "comparison" "Reader.comparison" s_Reader_comparison f fd) (G : Facts mg) (RK : RCls K C) (hW : mg "OPERATORS" = some (.ref W)) (tW : ∀ H, SqT K H W (Df.opsL.map V.str)) (S_word : MetS P w K mg base 1 C "word" (spWord C)) (X_refuse : MetX P w K mg base 3 C "refuse" (spRefuse C CE)) (X_term : MetX P w K mg base 5 C "term" (spM C CE Pt valAt fun _ => Df.termR)) :
    FnOk P w K mg base (L2.CX P w) 6 f fd ["self"] (spM C CE Pt valFm fun _ => Df.cmpR) := by
  refine F.ok sc_Reader_comparison (fun vs H Q E h => ?_) (fun cdv A outer s H vs Q E hr h => ?_)
  · obtain ⟨c, h, _, _, _, rfl, _⟩ := h
    rfl
  · obtain ⟨c, h, rfl, rfl, rfl, rfl, hR, hT, ho⟩ := h
    have hu := hu_of hr
    refine ⟨_, (pss_cons (ps_set (i := 1) sc_Reader_comparison.nd rfl (.inl rfl) (pe_mx0 X_term (takes_of rfl rfl rfl rfl) (fun _ _ _ _ h => h) hr (by decide) (pv 0)))
      (pss_cons (ps_set (i := 2) sc_Reader_comparison.nd rfl (.inl rfl) (pe_ms0 S_word hr (by decide) (pv 0)))
      (pss_cons (ps_if (pt_cmpR (kNotIn K) (pv 2) (pe_glob (v := .ref W) (by rfl) hW rfl) (by rfl)) (pss_one (ps_expr (pe_mx0 X_refuse (takes_of rfl rfl rfl rfl) (fun _ _ _ _ h => h) hr (by decide) (pv 0)))) pss_nil)
      (pss_cons (ps_fldaug (pv 0) pe_int ip_add)
      (pss_one (ps_ret (pe_tup (pa_cons pe_str (pa_cons (pv 2) (pa_cons (pv 1) (pa_cons (pe_mx0 X_term (takes_of rfl rfl rfl rfl) (fun _ _ _ _ h => h) hr (by decide) (pv 0)) pa_nil))))))))))), ?_⟩
    obtain ⟨dx, items, h1, h2, h3, h4, h5⟩ := hR.ex
    have ho : RdOut c H (valFm c) (Df.cmpR (wsOf c.ps h)) Q E := ho
    unfold Df.cmpR at ho
    refine ⟨_, rfl, c.r, dx, _, rfl, h1, lookupR _ (by decide +kernel) _ _ _, c, h, rfl, rfl, rfl, rfl, hR, hT, ho.sub fun l ws H3 h3 vl hq k3 R3 e3 T3 hvl ho3 => ?_⟩
    subst e3
    obtain ⟨dx3, items3, q1, q2, q3, q4, q5⟩ := R3.ex
    obtain ⟨p', hp'⟩ := R3.get
    rw [hd_ws hp', tl_ws] at ho3
    refine ⟨_, rfl, c.r, dx3, _, rfl, q1, lookupR _ (by decide +kernel) _ _ _, c.r, c.W, c.A, c.ps, h3, c.ar, p', rfl, R3, hp', ?_⟩
    refine ⟨_, rfl, W, _, rfl, .inr (tW H3), rfl, flatS _, _, rfl, ?_⟩
    rw [inV_strs]
    cases c1 : Df.opsL.contains p'.1 with
    | false =>
      rw [if_neg (by rw [c1]; decide)] at ho3
      refine iteT ⟨_, rfl, c.r, dx3, _, rfl, q1, lookupR _ (by decide +kernel) _ _ _, c.r, c.W, c.A, c.ps, h3, c.ar, p', rfl, R3, hp', ?_⟩
      exact fun H' d s3 nd hd => ho3 H' d h3 p' (KR.same s3) (TabG.mono T3 s3) hp' rfl hd
    | true =>
      rw [if_pos c1] at ho3
      have hop := List.contains_iff_mem.mp c1
      have hl := R3.ok.next hp' (fun z => by rw [z] at c1; exact absurd c1 (by decide +kernel))
      refine iteF ⟨_, rfl, c.r, c.C, dx3, _, _, rfl, q1, RK.cl, RK.nH, rfl, _, _, rfl, rfl, dx3, _, q1, by show 3 < 1000; decide, ?_⟩
      have R5 := R3.step q1 hl
      have T5 := TabG.upd_ins (C2 := c.C) (dx2 := dx3) (fs2 := fsR c.W c.A (h3 + 1)) T3 q1
      have q5' : (upd H3 c.r (.ins c.C dx3 (fsR c.W c.A (h3 + 1)))) c.r = some (.ins c.C dx3 (fsR c.W c.A (h3 + 1))) := upd_same
      have ho5 := ho3.mono (KR.upd (o := .ins c.C dx3 (fsR c.W c.A (h3 + 1))))
      have hvl5 : Dt c.N (upd H3 c.r (.ins c.C dx3 (fsR c.W c.A (h3 + 1)))) vl (atD l) := Dt.kr KR.upd hvl
      refine ⟨_, rfl, _, rfl, _, rfl, c.r, dx3, _, rfl, q5', lookupR _ (by decide +kernel) _ _ _, c, h3 + 1, rfl, rfl, rfl, rfl, R5, T5, ho5.sub fun r ws H6 h6 v6 hq6 k6 R6 e6 T6 hv6 ho6 => ?_⟩
      refine ⟨by show 4 ≤ sizeLine; decide, fun t nt => ?_⟩
      have s7 := same_upd nt (o := .tup [V.str "compare", .str p'.1, vl, v6])
      exact ho6 _ h6 _ (KR.same s7) (R6.mono s7) e6 (TabG.mono T6 s7) (.tup ⟨RC.free R6 T6 nt, by show 4 ≤ 1000; decide⟩ upd_same (.cons (.str cmp_ok) (.cons (.str (op_ok hop)) (.cons ((Dt.kr k6 hvl5).mono s7) (.cons (hv6.mono s7) .nil)))))
end
end K1

namespace K1
open PySem PySem.Spec PyProof.Rows L2 Ls
def spDen (C CE Pt : Addr) (d : Nat) : Sp := spM C CE Pt valFm fun ar ws => Df.denR d ar ws
def spForm (C CE Pt : Addr) (d : Nat) : Sp := spM C CE Pt valFm fun ar ws => Df.rowR d "or" ar ws
def spRow (C CE Pt : Addr) (d : Nat) : Sp := fun vs H Q E => ∃ (c : RC) (h : Nat) (x : Str), c.C = C ∧ c.CE = CE ∧ c.Pt = Pt ∧ vs = [.ref c.r, .str x] ∧ (x = "or" ∨ x = "and") ∧ c.At H h ∧ c.T H ∧ RdOut c H (valFm c) (Df.rowR d x c.ar (wsOf c.ps h)) Q E
def spQu (C CE Pt : Addr) (d : Nat) : Sp := fun vs H Q E => ∃ (c : RC) (h : Nat), c.C = C ∧ c.CE = CE ∧ c.Pt = Pt ∧ vs = [.ref c.r] ∧ (Df.hd (wsOf c.ps h) = "all" ∨ Df.hd (wsOf c.ps h) = "some") ∧ c.At H h ∧ c.T H ∧ RdOut c H (valFm c) (Df.quL (fun ar ws => Df.rowR d "or" ar ws) ((wsOf c.ps h).length + 1) (Df.hd (wsOf c.ps h)) c.ar [] (wsOf c.ps h).tail) Q E
theorem kw_str : ∀ k ∈ (["not", "all", "some", "and", "or"] : List Str), k.length ≤ 1000 ∧ PySem.PyData.strOk k = true := by decide +kernel
section
variable {P : Program} {w : World} {K : PySem.W.Frag} {mg : Str → Option Value} {base : Heap} {f W Pt C CE : Addr} {fd : FuncData} {k : Nat}
theorem sc_Reader_formula : FnScope ["self"] ["self"] (defScope s_Reader_formula) := ⟨rfl, rfl, rfl, by decide +kernel, rfl, by decide +kernel, by decide +kernel⟩
theorem ok_formula (d : Nat) (F : NnP K "formula" "Reader.formula" s_Reader_formula f fd) (G : Facts mg) (X_row : MetX P w K mg base (4 * d + 7) C "row" (spRow C CE Pt d)) : FnOk P w K mg base (L2.CX P w) (4 * d + 8) f fd ["self"] (spForm C CE Pt d) := by
  refine F.ok sc_Reader_formula (fun vs H Q E h => ?_) (fun cdv A outer s H vs Q E hr h => ?_)
  · obtain ⟨c, h, _, _, _, rfl, _⟩ := h
    rfl
  · obtain ⟨c, h, rfl, rfl, rfl, rfl, hR, hT, ho⟩ := h
    have hu := hu_of hr
    refine ⟨_, (pss_one (ps_ret (pe_mx X_row (takes_of rfl rfl rfl rfl) (fun _ _ _ _ h => h) hr (by omega) (pv 0) (pa_cons pe_str pa_nil)))), ?_⟩
    obtain ⟨dx, items, h1, h2, h3, h4, h5⟩ := hR.ex
    exact ⟨_, rfl, c.r, dx, _, rfl, h1, lookupR _ (by decide +kernel) _ _ _, c, h, "or", rfl, rfl, rfl, rfl, .inl rfl, hR, hT, ho⟩
theorem ok_denial0 (F : NnP K "denial" "Reader.denial" s_Reader_denial f fd) {n : Nat} (S : FnScope ["self", "found"] ["self"] (defScope s_Reader_denial)) : FnOk P w K mg base (L2.CX P w) (n + 1) f fd ["self"] (spDen C CE Pt 0) := by
  refine F.ok S (fun vs H Q E h => ?_) (fun cdv A outer s H vs Q E hr h => ?_)
  · obtain ⟨c, h, _, _, _, rfl, _⟩ := h
    rfl
  · obtain ⟨c, h, rfl, rfl, rfl, rfl, hR, hT, ho⟩ := h
    exact ho.elim
theorem ok_row0 (F : NnP K "row" "Reader.row" s_Reader_row f fd) {n : Nat} (S : FnScope ["self", "word", "parts"] ["self", "word"] (defScope s_Reader_row)) : FnOk P w K mg base (L2.CX P w) (n + 1) f fd ["self", "word"] (spRow C CE Pt 0) := by
  refine F.ok S (fun vs H Q E h => ?_) (fun cdv A outer s H vs Q E hr h => ?_)
  · obtain ⟨c, h, x, _, _, _, rfl, _⟩ := h
    rfl
  · obtain ⟨c, h, x, rfl, rfl, rfl, rfl, hx, hR, hT, ho⟩ := h
    exact ho.elim
theorem sc_Reader_denial : FnScope ["self", "found"] ["self"] (defScope s_Reader_denial) := ⟨rfl, rfl, rfl, by decide +kernel, rfl, by decide +kernel, by decide +kernel⟩
theorem ok_denialS (d : Nat) (F : NnP K "denial" "Reader.denial" s_Reader_denial f fd) (G : Facts mg) (RK : RCls K C) (S_word : MetS P w K mg base 1 C "word" (spWord C)) (X_denial : MetX P w K mg base (4 * d + 7) C "denial" (spDen C CE Pt d)) (X_quantified : MetX P w K mg base (4 * d + 9) C "quantified" (spQu C CE Pt d)) (X_formula : MetX P w K mg base (4 * d + 8) C "formula" (spForm C CE Pt d)) (X_take : MetX P w K mg base 4 C "take" (spTake C CE Pt)) (X_comparison : MetX P w K mg base 6 C "comparison" (spM C CE Pt valFm fun _ => Df.cmpR)) :
    FnOk P w K mg base (L2.CX P w) (4 * d + 10 + 1) f fd ["self"] (spDen C CE Pt (d + 1)) := by
  refine F.ok sc_Reader_denial (fun vs H Q E h => ?_) (fun cdv A outer s H vs Q E hr h => ?_)
  · obtain ⟨c, h, _, _, _, rfl, _⟩ := h
    rfl
  · obtain ⟨c, h, rfl, rfl, rfl, rfl, hR, hT, ho⟩ := h
    have hu := hu_of hr
    refine ⟨_, (pss_cons (ps_if (pt_cmpR op_eq (pe_ms0 S_word hr (by omega) (pv 0)) pe_str (nomark _)) (pss_cons (ps_fldaug (pv 0) pe_int ip_add)
        (pss_one (ps_ret (pe_tup (pa_cons pe_str (pa_cons (pe_mx0 X_denial (takes_of rfl rfl rfl rfl) (fun _ _ _ _ h => h) hr (by omega) (pv 0)) pa_nil)))))) pss_nil)
      (pss_cons (ps_if (pt_cmpR (kIn K) (pe_ms0 S_word hr (by omega) (pv 0)) (pe_tup (pa_cons pe_str (pa_cons pe_str pa_nil))) (by rfl)) (pss_one (ps_ret (pe_mx0 X_quantified (takes_of rfl rfl rfl rfl) (fun _ _ _ _ h => h) hr (by omega) (pv 0)))) pss_nil)
      (pss_cons (ps_if (pt_cmpR op_eq (pe_ms0 S_word hr (by omega) (pv 0)) pe_str (nomark _)) (pss_cons (ps_fldaug (pv 0) pe_int ip_add)
        (pss_cons (ps_set (i := 1) sc_Reader_denial.nd rfl (.inl rfl) (pe_mx0 X_formula (takes_of rfl rfl rfl rfl) (fun _ _ _ _ h => h) hr (by omega) (pv 0)))
        (pss_cons (ps_expr (pe_mx X_take (takes_of rfl rfl rfl rfl) (fun _ _ _ _ h => h) hr (by omega) (pv 0) (pa_cons pe_str pa_nil)))
        (pss_one (ps_ret (pv 1)))))) pss_nil)
      (pss_one (ps_ret (pe_mx0 X_comparison (takes_of rfl rfl rfl rfl) (fun _ _ _ _ h => h) hr (by omega) (pv 0))))))), ?_⟩
    obtain ⟨dx, items, h1, h2, h3, h4, h5⟩ := hR.ex
    obtain ⟨p, hp⟩ := hR.get
    have ho : RdOut c H (valFm c) (Df.denR (d + 1) c.ar (wsOf c.ps h)) Q E := ho
    unfold Df.denR at ho
    rw [hd_ws hp, tl_ws] at ho
    have step := hR.ok.next hp
    refine ⟨_, rfl, c.r, dx, _, rfl, h1, lookupR _ (by decide +kernel) _ _ _, c.r, c.W, c.A, c.ps, h, c.ar, p, rfl, hR, hp, rfl, _, rfl, ?_⟩
    by_cases c1 : p.1 = "not"
    · rw [if_pos c1] at ho
      rw [show decide (V.str p.1 = V.str "not") = true by simp [c1]]
      have hl := step (fun z => by rw [z] at c1; exact absurd c1 (by decide +kernel))
      have R5 := hR.step h1 hl
      have T5 := TabG.upd_ins (C2 := c.C) (dx2 := dx) (fs2 := fsR c.W c.A (h + 1)) hT h1
      have q5' : (upd H c.r (.ins c.C dx (fsR c.W c.A (h + 1)))) c.r = some (.ins c.C dx (fsR c.W c.A (h + 1))) := upd_same
      have ho5 := ho.mono (KR.upd (o := .ins c.C dx (fsR c.W c.A (h + 1))))
      refine iteT ⟨_, rfl, c.r, c.C, dx, _, _, rfl, h1, RK.cl, RK.nH, rfl, _, _, rfl, rfl, dx, _, h1, by show 3 < 1000; decide, _, rfl, c.r, dx, _, rfl, q5', lookupR _ (by decide +kernel) _ _ _, c, h + 1, rfl, rfl, rfl, rfl, R5, T5, ho5.sub fun r ws H6 h6 v6 hq6 k6 R6 e6 T6 hv6 ho6 => ?_⟩
      refine ⟨by show 2 ≤ sizeLine; decide, fun t nt => ?_⟩
      have s7 := same_upd nt (o := .tup [V.str "not", v6])
      exact ho6 _ h6 _ (KR.same s7) (R6.mono s7) e6 (TabG.mono T6 s7) (.tup ⟨RC.free R6 T6 nt, by show 2 ≤ 1000; decide⟩ upd_same (.cons (.str (kw_str "not" (by decide +kernel))) (.cons (hv6.mono s7) .nil)))
    · rw [if_neg c1] at ho
      rw [show decide (V.str p.1 = V.str "not") = false by simp [c1]]
      refine iteF ⟨_, rfl, c.r, dx, _, rfl, h1, lookupR _ (by decide +kernel) _ _ _, c.r, c.W, c.A, c.ps, h, c.ar, p, rfl, hR, hp, by show 2 ≤ sizeLine; decide, fun t nt => ⟨t, _, rfl, .inr (sqt upd_same), rfl, rfl, _, rfl, ?_⟩⟩
      have s4 := same_upd nt (o := .tup [V.str "all", V.str "some"])
      have R4 := hR.mono s4
      have T4 := TabG.mono hT s4
      have ho4 := ho.mono (KR.same s4)
      have h1' := s4 _ _ h1
      generalize upd H t (.tup [V.str "all", V.str "some"]) = H4 at s4 R4 T4 ho4 h1' ⊢
      rw [show inV (V.str p.1) [V.str "all", V.str "some"] = [("all" : Str), "some"].contains p.1 from inV_strs p.1 [("all" : Str), "some"]]
      by_cases c2 : p.1 = "all" ∨ p.1 = "some"
      · rw [show [("all" : Str), "some"].contains p.1 = true by rcases c2 with e | e <;> rw [e] <;> decide +kernel]
        rw [if_pos c2] at ho4
        exact iteT ⟨_, rfl, c.r, dx, _, rfl, h1', lookupR _ (by decide +kernel) _ _ _, c, h, rfl, rfl, rfl, rfl, by rw [hd_ws hp]; exact c2, R4, T4, by rw [hd_ws hp, tl_ws]; exact ho4⟩
      · rw [show [("all" : Str), "some"].contains p.1 = false by rw [Bool.eq_false_iff]; intro z; rcases List.mem_cons.mp (List.contains_iff_mem.mp z) with e | e; exact c2 (.inl e); exact c2 (.inr (List.mem_singleton.mp e))]
        rw [if_neg c2] at ho4
        refine iteF ⟨_, rfl, c.r, dx, _, rfl, h1', lookupR _ (by decide +kernel) _ _ _, c.r, c.W, c.A, c.ps, h, c.ar, p, rfl, R4, hp, rfl, _, rfl, ?_⟩
        by_cases c3 : p.1 = "("
        · rw [if_pos c3] at ho4
          rw [show decide (V.str p.1 = V.str "(") = true by simp [c3]]
          have hl := step (fun z => by rw [z] at c3; exact absurd c3 (by decide +kernel))
          have R5 := R4.step h1' hl
          have T5 := TabG.upd_ins (C2 := c.C) (dx2 := dx) (fs2 := fsR c.W c.A (h + 1)) T4 h1'
          have q5' : (upd H4 c.r (.ins c.C dx (fsR c.W c.A (h + 1)))) c.r = some (.ins c.C dx (fsR c.W c.A (h + 1))) := upd_same
          have ho5 := ho4.mono (KR.upd (o := .ins c.C dx (fsR c.W c.A (h + 1))))
          refine iteT ⟨_, rfl, c.r, c.C, dx, _, _, rfl, h1', RK.cl, RK.nH, rfl, _, _, rfl, rfl, dx, _, h1', by show 3 < 1000; decide, _, rfl, c.r, dx, _, rfl, q5', lookupR _ (by decide +kernel) _ _ _, c, h + 1, rfl, rfl, rfl, rfl, R5, T5, ho5.sub fun fm ws H6 h6 v6 hq6 k6 R6 e6 T6 hv6 ho6 => ?_⟩
          subst e6
          obtain ⟨dx6, items6, g1, g2, g3, g4, g5⟩ := R6.ex
          refine ⟨_, rfl, c.r, dx6, _, rfl, g1, lookupR _ (by decide +kernel) _ _ _, c, h6, ")", rfl, rfl, rfl, rfl, by decide +kernel, R6, T6, ho6.sub fun u ws H7 h7 v7 hq7 k7 R7 e7 T7 hv7 ho7 => ?_⟩
          exact ⟨_, rfl, ho7 _ h7 _ KR.refl R7 e7 T7 (Dt.kr k7 hv6)⟩
        · rw [if_neg c3] at ho4
          rw [show decide (V.str p.1 = V.str "(") = false by simp [c3]]
          exact iteF ⟨_, rfl, c.r, dx, _, rfl, h1', lookupR _ (by decide +kernel) _ _ _, c, h, rfl, rfl, rfl, rfl, R4, T4, ho4⟩
end
end K1

namespace K1
open PySem PySem.Spec PyProof.Rows L2 Ls
theorem Dt.tup_ {N : Addr → Prop} {H : Hp} {v : V} {ds : List PyData} (h : Dt N H v (.tuple ds)) : ∃ a xs, v = .ref a ∧ N a ∧ ds.length ≤ 1000 ∧ H a = some (.tup xs) ∧ DtAll N H xs ds := by
  cases h with
  | tup n e h => exact ⟨_, _, rfl, n.1, n.2, e, h⟩
theorem at_to {N : Addr → Prop} {H H' : Hp} (s : ∀ b xs, N b → H b = some (.tup xs) → H' b = some (.tup xs)) {a : Str × Int} {v : V} (h : Dt N H v (atD a)) : Dt N H' v (atD a) := by
  obtain ⟨t, xs, rfl, n, l, e, h⟩ := Dt.tup_ h
  refine .tup ⟨n, l⟩ (s _ _ n e) ?_
  cases h with
  | cons h1 h =>
    cases h with
    | cons h2 h =>
      cases h
      cases h1 with
      | str hx =>
        cases h2 with
        | int => exact .cons (.str hx) (.cons (.int _) .nil)
theorem str_to {N : Addr → Prop} {H H' : Hp} {x : Str} {v : V} (h : Dt N H v (.str x)) : Dt N H' v (.str x) := by
  cases h with
  | str hx => exact .str hx
mutual
/-- a formula stands where its tuples stand -/
theorem fm_to {N : Addr → Prop} {H H' : Hp} (s : ∀ b xs, N b → H b = some (.tup xs) → H' b = some (.tup xs)) : ∀ (f : Df.Fm) {v : V}, Dt N H v (fmD f) → Dt N H' v (fmD f)
  | .cmp op l r, v, h => by
    simp only [fmD] at h ⊢
    obtain ⟨t, xs, rfl, n, l, e, h⟩ := Dt.tup_ h
    refine .tup ⟨n, l⟩ (s _ _ n e) ?_
    cases h with
    | cons h1 h => cases h with
      | cons h2 h => cases h with
        | cons h3 h => cases h with
          | cons h4 h =>
            cases h
            exact .cons (str_to h1) (.cons (str_to h2) (.cons (at_to s h3) (.cons (at_to s h4) .nil)))
  | .no f, v, h => by
    simp only [fmD] at h ⊢
    obtain ⟨t, xs, rfl, n, l, e, h⟩ := Dt.tup_ h
    refine .tup ⟨n, l⟩ (s _ _ n e) ?_
    cases h with
    | cons h1 h => cases h with
      | cons h2 h =>
        cases h
        exact .cons (str_to h1) (.cons (fm_to s f h2) .nil)
  | .q k x f, v, h => by
    simp only [fmD] at h ⊢
    obtain ⟨t, xs, rfl, n, l, e, h⟩ := Dt.tup_ h
    refine .tup ⟨n, l⟩ (s _ _ n e) ?_
    cases h with
    | cons h1 h => cases h with
      | cons h2 h => cases h with
        | cons h3 h =>
          cases h
          exact .cons (str_to h1) (.cons (str_to h2) (.cons (fm_to s f h3) .nil))
  | .row k fs, v, h => by
    simp only [fmD] at h ⊢
    obtain ⟨t, xs, rfl, n, l, e, h⟩ := Dt.tup_ h
    refine .tup ⟨n, l⟩ (s _ _ n e) ?_
    cases h with
    | cons h1 h => cases h with
      | cons h2 h =>
        cases h
        obtain ⟨t2, xs2, rfl, n2, l2, e2, h2⟩ := Dt.tup_ h2
        exact .cons (str_to h1) (.cons (.tup ⟨n2, l2⟩ (s _ _ n2 e2) (fms_to s fs h2)) .nil)
theorem fms_to {N : Addr → Prop} {H H' : Hp} (s : ∀ b xs, N b → H b = some (.tup xs) → H' b = some (.tup xs)) : ∀ (fs : List Df.Fm) {vs : List V}, DtAll N H vs (fmDs fs) → DtAll N H' vs (fmDs fs)
  | [], _, h => by
    simp only [fmDs] at h ⊢
    cases h
    exact .nil
  | f :: fs, _, h => by
    simp only [fmDs] at h ⊢
    cases h with
    | cons h1 h2 => exact .cons (fm_to s f h1) (fms_to s fs h2)
end
theorem RdAt.updl {C : Addr} {H : Hp} {r W A : Addr} {ps : List (Str × Nat)} {h : Nat} {ar : List Str} (R : RdAt C H r W A ps h ar) {l : Addr} {vs : List V} {o : HO} (hl : H l = some (.lst vs)) (nW : l ≠ W) (nA : l ≠ A) : RdAt C (upd H l o) r W A ps h ar := by
  obtain ⟨dx, items, h1, h2, h3, h4, h5⟩ := R.ex
  refine ⟨⟨dx, items, ?_, by rw [upd_ne (Ne.symm nW)]; exact h2, h3.to fun b xs e => ?_, by rw [upd_ne (Ne.symm nA)]; exact h4, h5⟩, R.lt, R.ok, R.ars⟩
  · rw [upd_ne fun z => by rw [z, hl] at h1; cases h1]
    exact h1
  · rw [upd_ne fun z => by rw [z, hl] at e; cases e]
    exact e
theorem TabG.updl {Pt l : Addr} {H : Hp} (h : GxR.TabG H Pt) {vs : List V} {o : HO} (hl : H l = some (.lst vs)) : GxR.TabG (upd H l o) Pt := by
  obtain ⟨q, e, ok⟩ := h
  exact ⟨q, by rw [upd_ne fun z => by rw [z, hl] at e; cases e]; exact e, ok⟩
theorem KR.updl {r A Pt l : Addr} {H H' : Hp} {o : HO} (k : KR r A Pt H H') (nl : H l = none) : KR r A Pt H (L2.upd H' l o) := fun b o' n1 n2 n3 e => by
  rw [upd_ne fun z => by rw [z, nl] at e; cases e]
  exact k b o' n1 n2 n3 e
theorem fmDs_eq : ∀ fs : List Df.Fm, fmDs fs = fs.map fmD
  | [] => rfl
  | f :: fs => by rw [fmDs, fmDs_eq fs]; rfl
section
variable {P : Program} {w : World} {K : PySem.W.Frag} {mg : Str → Option Value} {base : Heap} {f W Pt C CE : Addr} {fd : FuncData} {k : Nat}
theorem sc_Reader_row : FnScope ["self", "word", "parts"] ["self", "word"] (defScope s_Reader_row) := ⟨rfl, rfl, rfl, by decide +kernel, rfl, by decide +kernel, by decide +kernel⟩
theorem ok_rowS (d : Nat) (F : NnP K "row" "Reader.row" s_Reader_row f fd) (G : Facts mg) (RK : RCls K C) (S_word : MetS P w K mg base 1 C "word" (spWord C)) (X_denial : MetX P w K mg base (4 * d + 7) C "denial" (spDen C CE Pt d)) (X_row : MetX P w K mg base (4 * d + 7) C "row" (spRow C CE Pt d)) :
    FnOk P w K mg base (L2.CX P w) (4 * d + 10 + 1) f fd ["self", "word"] (spRow C CE Pt (d + 1)) := by
  refine F.ok sc_Reader_row (fun vs H Q E h => ?_) (fun cdv A outer s H vs Q E hr h => ?_)
  · obtain ⟨c, h, x, _, _, _, rfl, _⟩ := h
    rfl
  · obtain ⟨c, h, x, rfl, rfl, rfl, rfl, hx, hR, hT, ho⟩ := h
    have hu := hu_of hr
    refine ⟨_, (pss_cons (ps_set (i := 2) sc_Reader_row.nd rfl (.inl rfl) (pe_lst (pa_cons (pe_ifExp (pt_cmpR op_eq (pv 1) pe_str (nomark _)) (pe_mx0 X_denial (takes_of rfl rfl rfl rfl) (fun _ _ _ _ h => h) hr (by omega) (pv 0)) (pe_mx X_row (takes_of rfl rfl rfl rfl) (fun _ _ _ _ h => h) hr (by omega) (pv 0) (pa_cons pe_str pa_nil))) pa_nil)))
      (pss_cons (ps_while (passes_of rfl) (pt_cmpR op_eq (pe_ms0 S_word hr (by omega) (pv 0)) (pv 1) (nomark _)) (pss_cons (ps_fldaug (pv 0) pe_int ip_add)
        (pss_one (ps_expr (pe_bm PySem.F.plainAttrs_list PySem.F.slot_list_append PySem.F.type_list_append mt_append (pv 2) (pa_cons (pe_ifExp (pt_cmpR op_eq (pv 1) pe_str (nomark _)) (pe_mx0 X_denial (takes_of rfl rfl rfl rfl) (fun _ _ _ _ h => h) hr (by omega) (pv 0)) (pe_mx X_row (takes_of rfl rfl rfl rfl) (fun _ _ _ _ h => h) hr (by omega) (pv 0) (pa_cons pe_str pa_nil))) pa_nil))))))
      (pss_one (ps_ret (pe_ifExp (pt_cmpR op_eq (pe_callB (kLen K) (by rfl) G.len_ PySem.boot_len (pa_cons (pv 2) pa_nil)) pe_int (nomark _)) (pe_ix (kIxL K) (pv 2) pe_int (fun _ _ => rfl)) (pe_tup (pa_cons (pv 1) (pa_cons (pe_callTy kTuple (by rfl) G.tuple_ (by decide +kernel) (pa_cons (pv 2) pa_nil)) pa_nil)))))))), ?_⟩
    have ho : RdOut c H (valFm c) (Df.rowR (d + 1) x c.ar (wsOf c.ps h)) Q E := ho
    unfold Df.rowR at ho
    have xk : x.length ≤ 1000 ∧ PySem.PyData.strOk x = true := kw_str x (by rcases hx with e | e <;> rw [e] <;> decide +kernel)
    have part : ∀ (σ : L2.St) (H1 : Hp) (h1 : Nat) (QQ : VK), σ[0]? = some (some (.ref c.r)) → σ[1]? = some (some (.str x)) → c.At H1 h1 → c.T H1 → RdOut c H1 (valFm c) (if x = "and" then Df.denR d c.ar (wsOf c.ps h1) else Df.rowR d "and" c.ar (wsOf c.ps h1)) QQ E →
        (tIf (tTest (tOp rEq (tVar 1) (tC (V.str "and")))) (tMeth c.C "denial" (spDen c.C c.CE c.Pt d) [] E (tVar 0) tNil) (tMeth c.C "row" (spRow c.C c.CE c.Pt d) [] E (tVar 0) (tCons (tC (V.str "and")) tNil))) σ H1 QQ := fun σ H1 h1 QQ e0 e1 R1 T1 o1 => by
      obtain ⟨dx, items, q1, q2, q3, q4, q5⟩ := R1.ex
      refine ⟨_, e1, rfl, _, rfl, ?_⟩
      by_cases hx2 : x = "and"
      · rw [if_pos hx2] at o1
        rw [show decide (V.str x = V.str "and") = true by simp [hx2]]
        exact iteT ⟨_, e0, c.r, dx, _, rfl, q1, lookupR _ (by decide +kernel) _ _ _, c, h1, rfl, rfl, rfl, rfl, R1, T1, o1⟩
      · rw [if_neg hx2] at o1
        rw [show decide (V.str x = V.str "and") = false by simp [hx2]]
        exact iteF ⟨_, e0, c.r, dx, _, rfl, q1, lookupR _ (by decide +kernel) _ _ _, c, h1, "and", rfl, rfl, rfl, rfl, .inr rfl, R1, T1, o1⟩
    refine part _ H h _ rfl rfl hR hT (ho.sub fun f0 ws0 H1 h1 v1 hq1 k1 R1 e1 T1 hv1 ho1 => ?_)
    subst e1
    refine ⟨by show 1 ≤ sizeLine; decide, fun l nl => ?_⟩
    have s2 := same_upd nl (o := .lst [v1])
    have nlN := RC.free R1 T1 nl
    have nlW : l ≠ c.W := fun z => by
      obtain ⟨dx, items, q1, q2, q3, q4, q5⟩ := R1.ex
      rw [z, q2] at nl
      cases nl
    refine ⟨fun m σ H' => ∃ (h' : Nat) (vs : List V) (fs : List Df.Fm), σ = [some (.ref c.r), some (.str x), some (.ref l)] ∧ c.Kp H1 H' ∧ H' l = some (.lst vs) ∧ c.At H' h' ∧ c.T H' ∧ DtAll c.N H' vs (fmDs fs.reverse) ∧ fs ≠ [] ∧ fs.length + m ≤ (wsOf c.ps h1).length + 2 ∧ RdOut c H1 (valFm c) (Df.restL (fun ws => if x = "and" then Df.denR d c.ar ws else Df.rowR d "and" c.ar ws) m x fs (wsOf c.ps h')) Q E,
      ⟨(wsOf c.ps h1).length + 1, h1, [v1], [f0], rfl, KR.same s2, upd_same, R1.mono s2, TabG.mono T1 s2, .cons (Dt.mono s2 hv1) .nil, by simp, by simp; omega, ho1⟩, ?_⟩
    rintro m σ H' ⟨h', vs, fs, rfl, k', hl', R', T', hd', hne, hlen, ho'⟩
    obtain ⟨dx', items', q1, q2, q3, q4, q5⟩ := R'.ex
    obtain ⟨p, hp⟩ := R'.get
    refine ⟨_, rfl, c.r, dx', _, rfl, q1, lookupR _ (by decide +kernel) _ _ _, c.r, c.W, c.A, c.ps, h', c.ar, p, rfl, R', hp, _, rfl, rfl, _, rfl, ?_⟩
    cases m with
    | zero => exact ho'.elim
    | succ m =>
      unfold Df.restL at ho'
      rw [hd_ws hp, tl_ws] at ho'
      by_cases hpx : p.1 = x
      · rw [if_pos hpx] at ho'
        rw [show decide (V.str p.1 = V.str x) = true by rw [hpx]; simp]
        have hl := R'.ok.next hp (fun z => by rw [z] at hpx; rw [← hpx] at hx; rcases hx with e | e <;> exact absurd e (by decide +kernel))
        have R5 := R'.step q1 hl
        have T5 := TabG.upd_ins (C2 := c.C) (dx2 := dx') (fs2 := fsR c.W c.A (h' + 1)) T' q1
        have ho5 := (ho'.mono k').mono (KR.upd (o := .ins c.C dx' (fsR c.W c.A (h' + 1))))
        have hlr : l ≠ c.r := nlN.1
        have hl5 : (upd H' c.r (.ins c.C dx' (fsR c.W c.A (h' + 1)))) l = some (.lst vs) := by rw [upd_ne hlr]; exact hl'
        have hd5 : DtAll c.N (upd H' c.r (.ins c.C dx' (fsR c.W c.A (h' + 1)))) vs (fmDs fs.reverse) := fms_to (fun b xs n e => by rw [upd_ne n.1]; exact e) _ hd'
        have k5 : c.Kp H1 (upd H' c.r (.ins c.C dx' (fsR c.W c.A (h' + 1)))) := k'.trans KR.upd
        refine iteT ⟨fun σ' H2 => ∃ (h2 : Nat) (vs2 : List V) (fs2 : List Df.Fm), σ' = [some (.ref c.r), some (.str x), some (.ref l)] ∧ c.Kp H1 H2 ∧ H2 l = some (.lst vs2) ∧ c.At H2 h2 ∧ c.T H2 ∧ DtAll c.N H2 vs2 (fmDs fs2.reverse) ∧ fs2 ≠ [] ∧ fs2.length + m ≤ (wsOf c.ps h1).length + 2 ∧ RdOut c H1 (valFm c) (Df.restL (fun ws => if x = "and" then Df.denR d c.ar ws else Df.rowR d "and" c.ar ws) m x fs2 (wsOf c.ps h2)) Q E, fun σ' H2 hN => ⟨m, Nat.lt_succ_self m, hN⟩, ?_⟩
        refine ⟨_, rfl, c.r, c.C, dx', _, _, rfl, q1, RK.cl, RK.nH, rfl, _, _, rfl, rfl, dx', _, q1, by show 3 < 1000; decide, ?_⟩
        refine ⟨_, rfl, .inl ⟨rfl, _, sq hl5⟩, ?_⟩
        refine part _ _ (h' + 1) _ rfl rfl R5 T5 (ho5.sub fun f6 ws6 H6 h6 v6 hq6 k6 R6 e6 T6 hv6 ho6 => ?_)
        subst e6
        have hl6 : H6 l = some (.lst vs) := k6 _ _ nlN.1 nlN.2.1 nlN.2.2 hl5
        have hd6 : DtAll c.N H6 vs (fmDs fs.reverse) := fms_to (fun b xs n e => k6 _ _ n.1 n.2.1 n.2.2 e) _ hd5
        have hvl : vs.length = fs.length := by rw [hd6.len, fmDs_eq, List.length_map, List.length_reverse]
        have hcnt : (wsOf c.ps h1).length ≤ 990 := by
          have := R1.ok.cnt
          unfold wsOf
          rw [List.length_map, List.length_drop]
          omega
        refine ⟨l, vs, v6, rfl, rfl, hl6, szlt (by omega), h6, vs ++ [v6], f6 :: fs, rfl, (k5.trans k6).updl nl, upd_same, R6.updl hl6 nlW nlN.2.1, TabG.updl T6 hl6, ?_, by simp, by simp only [List.length_cons]; omega, ?_⟩
        · have s7 : ∀ b xs, c.N b → H6 b = some (.tup xs) → (upd H6 l (.lst (vs ++ [v6]))) b = some (.tup xs) := fun b xs _ e => by
            rw [upd_ne fun z => by rw [z, hl6] at e; cases e]
            exact e
          rw [List.reverse_cons, fmDs_eq, List.map_append, ← fmDs_eq]
          exact (fms_to s7 _ hd6).app (.cons (fm_to s7 _ hv6) .nil)
        · rw [hq6] at ho'
          exact ho'
      · rw [if_neg hpx] at ho'
        rw [show decide (V.str p.1 = V.str x) = false by simp [hpx]]
        refine iteF ?_
        have ho2 := ho'.mono k'
        have hvl : vs.length = fs.length := by rw [hd'.len, fmDs_eq, List.length_map, List.length_reverse]
        have hcnt : (wsOf c.ps h1).length ≤ 990 := by
          have := R1.ok.cnt
          unfold wsOf
          rw [List.length_map, List.length_drop]
          omega
        refine ⟨_, rfl, l, vs, rfl, .inl (sq hl'), rfl, _, rfl, ?_⟩
        match fs, hne, ho2, hd', hvl with
        | [f0'], _, ho2, hd', hvl =>
          rw [show decide (V.int (vs.length : Int) = V.int 1) = true by rw [hvl]; rfl]
          refine iteT ?_
          cases hd' with
          | cons h0 ht =>
            cases ht
            refine ⟨_, rfl, l, _, _, _, rfl, rfl, sq hl', atI_nat (j := 0) rfl, ?_⟩
            exact ho2 _ h' _ KR.refl R' rfl T' h0
        | f0' :: f1' :: fr, _, ho2, hd', hvl =>
          rw [show decide (V.int (vs.length : Int) = V.int 1) = false from decide_eq_false (by intro z; injection z with z; rw [hvl] at z; simp only [List.length_cons] at z; omega)]
          refine iteF ⟨_, rfl, _, rfl, l, vs, rfl, .inl hl', fun H8 l2 s8 hl2 e8 => ⟨by show 2 ≤ sizeLine; decide, fun t nt => ?_⟩⟩
          have nl2 : c.N l2 := by
            rcases hl2 with hl2 | hl2
            · exact RC.free R' T' hl2
            · rw [hl2, s8 _ _ hl'] at e8
              cases e8
          have R8 := R'.mono s8
          have T8 := TabG.mono T' s8
          have s9 := same_upd nt (o := .tup [V.str x, .ref l2])
          have hd8 := (hd'.mono s8).mono s9
          have hlf : (fmDs (f0' :: f1' :: fr).reverse).length ≤ 1000 := by
            rw [fmDs_eq, List.length_map, List.length_reverse]
            omega
          exact ho2 _ h' _ (KR.same (s8.trans s9)) (R8.mono s9) rfl (TabG.mono T8 s9) (show Dt c.N _ _ (fmD (.row x (f0' :: f1' :: fr).reverse)) by
            simp only [fmD]
            exact .tup ⟨RC.free R8 T8 nt, by show 2 ≤ 1000; decide⟩ upd_same (.cons (.str xk) (.cons (.tup ⟨nl2, hlf⟩ (s9 _ _ e8) hd8) .nil)))
end
end K1

namespace K1
open PySem PySem.Spec PyProof.Rows L2 Ls
theorem atI_last {α : Type} (xs : List α) (v : α) : atI (xs ++ [v]) (-1) = some v := by
  unfold atI ixN
  rw [if_neg (by decide), if_pos (by rw [List.length_append]; simp only [List.length_cons, List.length_nil]; omega)]
  show (xs ++ [v])[((-1 : Int) + ((xs ++ [v]).length : Int)).toNat]? = some v
  rw [List.length_append, show ((-1 : Int) + ((xs.length + [v].length : Nat) : Int)).toNat = xs.length by simp only [List.length_cons, List.length_nil]; omega]
  rw [List.getElem?_append_right (Nat.le_refl _), Nat.sub_self]
  rfl
theorem walk_rev {K : PySem.W.Frag} {a : Addr} {xs : List V} : Walk (Itv K a xs.length) xs.length (fun H => SqL K H a xs) (fun i H x H' => H' = H ∧ xs[xs.length - 1 - i]? = some x) :=
  ⟨fun i _ hi q => ⟨hi, xs, xs[xs.length - 1 - i]'(by omega), q, List.getElem?_eq_getElem (by omega)⟩, fun _ _ => Nat.le_refl _, fun i H v H' _ q y => ⟨y.1, y.2 xs q⟩⟩
theorem ws_inj {ps : List (Str × Nat)} {a b : Nat} (ha : a < ps.length) (hb : b < ps.length) (h : wsOf ps a = wsOf ps b) : a = b := by
  have := congrArg List.length h
  unfold wsOf at this
  rw [List.length_map, List.length_map, List.length_drop, List.length_drop] at this
  omega
theorem nameR_tl {ws ws' : List Str} {x : Str} (h : Df.nameR ws = .ok x ws') : ws' = ws.tail := by
  unfold Df.nameR at h
  split at h
  · injection h with _ h2
    exact h2.symm
  · cases h
theorem name_ne0 {ps : List (Str × Nat)} {h : Nat} {p : Str × Nat} {ws' : List Str} {x : Str} (e : Df.nameR (wsOf ps h) = .ok x ws') (hp : ps[h]? = some p) : p.1 ≠ "" := by
  unfold Df.nameR at e
  rw [hd_ws hp] at e
  split at e
  · rename_i hn
    intro z
    rw [z] at hn
    exact absurd hn (by decide +kernel)
  · cases e
theorem tsn12 {α : Type} : ∀ {l : List α} {i : Nat} (h : i < l.length), l.take (i + 1) = l.take i ++ [l[i]]
  | a :: l, 0, _ => rfl
  | a :: l, i + 1, h => by
    simp only [List.take_succ_cons, List.cons_append, List.getElem_cons_succ]
    rw [tsn12 (by simpa using h)]
/-- other names around -/
theorem RdAt.setA {C : Addr} {H : Hp} {r W A : Addr} {ps : List (Str × Nat)} {h : Nat} {ar ar2 : List Str} (R : RdAt C H r W A ps h ar) (hl : ar2.length ≤ h) : RdAt C (upd H A (.lst (ar2.map V.str))) r W A ps h ar2 := by
  obtain ⟨dx, items, h1, h2, h3, h4, h5⟩ := R.ex
  refine ⟨⟨dx, items, ?_, by rw [upd_ne h5]; exact h2, h3.to fun b xs e => ?_, upd_same, h5⟩, R.lt, R.ok, hl⟩
  · rw [upd_ne fun z => by rw [z, h4] at h1; cases h1]
    exact h1
  · rw [upd_ne fun z => by rw [z, h4] at e; cases e]
    exact e
section
variable {P : Program} {w : World} {K : PySem.W.Frag} {mg : Str → Option Value} {base : Heap} {f W Pt C CE : Addr} {fd : FuncData} {k : Nat}
theorem sc_Reader_quantified : FnScope ["self", "kind", "names", "found", "name"] ["self"] (defScope s_Reader_quantified) := ⟨rfl, rfl, rfl, by decide +kernel, rfl, by decide +kernel, by decide +kernel⟩
theorem ok_quantified (d : Nat) (F : NnP K "quantified" "Reader.quantified" s_Reader_quantified f fd) (G : Facts mg) (RK : RCls K C) (S_word : MetS P w K mg base 1 C "word" (spWord C)) (X_refuse : MetX P w K mg base 3 C "refuse" (spRefuse C CE)) (X_take_name : MetX P w K mg base 4 C "take_name" (spM C CE Pt (fun _ => valStr) fun _ => Df.nameR)) (X_formula : MetX P w K mg base (4 * d + 8) C "formula" (spForm C CE Pt d)) (X_take : MetX P w K mg base 4 C "take" (spTake C CE Pt)) :
    FnOk P w K mg base (L2.CX P w) (4 * d + 8 + 1) f fd ["self"] (spQu C CE Pt d) := by
  refine F.ok sc_Reader_quantified (fun vs H Q E h => ?_) (fun cdv A outer s H vs Q E hr h => ?_)
  · obtain ⟨c, h, _, _, _, rfl, _⟩ := h
    rfl
  · obtain ⟨c, h, rfl, rfl, rfl, rfl, hk, hR, hT, ho⟩ := h
    have hu := hu_of hr
    refine ⟨_, (pss_cons (ps_set (i := 1) sc_Reader_quantified.nd rfl (.inl rfl) (pe_ms0 S_word hr (by omega) (pv 0)))
      (pss_cons (ps_fldaug (pv 0) pe_int ip_add)
      (pss_cons (ps_set (i := 2) sc_Reader_quantified.nd rfl (.inl rfl) (pe_lst pa_nil))
      (pss_cons (ps_while (passes_of rfl) (PW.pt (pw_or (pt_not (pt_truth (pv 2) (by intro _; rfl))) (pw_or1 (pt_cmpR op_ne (pe_ms0 S_word hr (by omega) (pv 0)) pe_str (nomark _))))) (pss_cons (ps_if (pt_cmpR (kIn K) (pe_ms0 S_word hr (by omega) (pv 0)) (kfld K (pv 0)) (by rfl)) (pss_one (ps_expr (pe_mx0 X_refuse (takes_of rfl rfl rfl rfl) (fun _ _ _ _ h => h) hr (by omega) (pv 0)))) pss_nil)
        (pss_cons (ps_expr (pe_bm PySem.F.plainAttrs_list PySem.F.slot_list_append PySem.F.type_list_append mt_append (pv 2) (pa_cons (pe_mx0 X_take_name (takes_of rfl rfl rfl rfl) (fun _ _ _ _ h => h) hr (by omega) (pv 0)) pa_nil)))
        (pss_one (ps_expr (pe_bm PySem.F.plainAttrs_list PySem.F.slot_list_append PySem.F.type_list_append mt_append (kfld K (pv 0)) (pa_cons (pe_ix (kIxL K) (pv 2) (pe_un un_neg pe_int) (fun _ _ => rfl)) pa_nil)))))))
      (pss_cons (ps_expr (pe_mx X_take (takes_of rfl rfl rfl rfl) (fun _ _ _ _ h => h) hr (by omega) (pv 0) (pa_cons pe_str pa_nil)))
      (pss_cons (ps_set (i := 3) sc_Reader_quantified.nd rfl (.inl rfl) (pe_mx0 X_formula (takes_of rfl rfl rfl rfl) (fun _ _ _ _ h => h) hr (by omega) (pv 0)))
      (pss_cons (ps_for (passes_of rfl) rfl (pi_reversed (by rfl) G.reversed_ (pa_cons (pe_callTy (kList K) (by rfl) G.list_ (by decide +kernel) (pa_cons (pv 2) pa_nil)) pa_nil)) (pg_name (i := 4) sc_Reader_quantified.nd rfl (by first | exact .inl rfl | exact .inr rfl))
        (pss_cons (ps_expr (pe_bm0 PySem.F.plainAttrs_list PySem.F.slot_list_pop PySem.F.type_list_pop mt_pop (kfld K (pv 0))))
        (pss_one (ps_set (i := 3) sc_Reader_quantified.nd rfl (.inl rfl) (pe_tup (pa_cons (pv 1) (pa_cons (pv 4) (pa_cons (pv 3) pa_nil))))))))
      (pss_one (ps_ret (pv 3)))))))))), ?_⟩
    obtain ⟨dx, items, h1, h2, h3, h4, h5⟩ := hR.ex
    obtain ⟨p, hp⟩ := hR.get
    rw [hd_ws hp] at hk ho
    rw [tl_ws] at ho
    have kk : p.1.length ≤ 1000 ∧ PySem.PyData.strOk p.1 = true := kw_str p.1 (by rcases hk with e | e <;> rw [e] <;> decide +kernel)
    have hl := hR.ok.next hp (fun z => by rw [z] at hk; rcases hk with e | e <;> exact absurd e (by decide +kernel))
    have R1 := hR.step h1 hl
    have T1 := TabG.upd_ins (C2 := c.C) (dx2 := dx) (fs2 := fsR c.W c.A (h + 1)) hT h1
    have q1 : (upd H c.r (.ins c.C dx (fsR c.W c.A (h + 1)))) c.r = some (.ins c.C dx (fsR c.W c.A (h + 1))) := upd_same
    have k1 : c.Kp H (upd H c.r (.ins c.C dx (fsR c.W c.A (h + 1)))) := KR.upd
    refine ⟨_, rfl, c.r, dx, _, rfl, h1, lookupR _ (by decide +kernel) _ _ _, c.r, c.W, c.A, c.ps, h, c.ar, p, rfl, hR, hp, ?_⟩
    refine ⟨_, rfl, c.r, c.C, dx, _, _, rfl, h1, RK.cl, RK.nH, rfl, _, _, rfl, rfl, dx, _, h1, by show 3 < 1000; decide, ?_⟩
    refine ⟨by show 0 ≤ sizeLine; decide, fun l nl => ?_⟩
    have nl1 : (upd H c.r (.ins c.C dx (fsR c.W c.A (h + 1)))) l = none := nl
    have nlN : c.N l := RC.free R1 T1 nl1
    have nlH : H l = none := by
      have := nl1
      rw [upd_ne nlN.1] at this
      exact this
    have nlW : l ≠ c.W := fun z => by
      obtain ⟨dx, items, q1, q2, q3, q4, q5⟩ := R1.ex
      rw [z, q2] at nl1
      cases nl1
    have s2 := same_upd nl1 (o := .lst [])
    refine ⟨fun m σ H' => ∃ (h' : Nat) (ns : List Str), σ = [some (.ref c.r), some (.str p.1), some (.ref l), none, none] ∧ c.Kp H H' ∧ H' l = some (.lst (ns.reverse.map V.str)) ∧ RC.At { c with ar := c.ar ++ ns.reverse } H' h' ∧ c.T H' ∧ (∀ x ∈ ns, x.length ≤ 1000 ∧ PySem.PyData.strOk x = true) ∧ RdOut c H (valFm c) (Df.quL (fun ar ws => Df.rowR d "or" ar ws) m p.1 (c.ar ++ ns.reverse) ns (wsOf c.ps h')) Q E,
      ⟨(wsOf c.ps h).length + 1, h + 1, [], rfl, k1.trans (KR.same s2), upd_same, by rw [List.reverse_nil, List.append_nil]; exact R1.mono s2, TabG.mono T1 s2, fun x hx => (by cases hx), by rw [List.reverse_nil, List.append_nil]; exact ho⟩, ?_⟩
    rintro m σ H' ⟨h', ns, rfl, k', hl', R', T', hns, ho'⟩
    obtain ⟨dx', items', g1, g2, g3, g4, g5⟩ := R'.ex
    obtain ⟨p', hp'⟩ := R'.get
    have hnl : ns.length ≤ 990 := by
      have a := R'.ars
      have b := R'.lt
      have e := R'.ok.cnt
      simp only [List.length_append, List.length_reverse] at a
      omega
    cases m with
    | zero => exact ho'.elim
    | succ m =>
      unfold Df.quL at ho'
      rw [hd_ws hp', tl_ws] at ho'
      have hE : (ns.reverse.map V.str).isEmpty = decide (ns = []) := by
        cases ns with
        | nil => rfl
        | cons a r =>
          rw [decide_eq_false (by simp)]
          cases q : (a :: r).reverse.map V.str with
          | nil => simp at q
          | cons _ _ => rfl
      refine ⟨_, rfl, _, .inl ⟨_, sq hl', rfl⟩, ?_⟩
      rw [hE]
      by_cases hcond : ns ≠ [] ∧ p'.1 = ":"
      · obtain ⟨hn, hc⟩ := hcond
        rw [if_pos ⟨hn, hc⟩] at ho'
        rw [decide_eq_false hn]
        refine iteF ⟨_, rfl, c.r, dx', _, rfl, g1, lookupR _ (by decide +kernel) _ _ _, c.r, c.W, c.A, c.ps, h', _, p', rfl, R', hp', rfl, _, rfl, ?_⟩
        rw [show (!decide (V.str p'.1 = V.str ":")) = false by rw [hc]; simp]
        have ht : Df.takeR ":" (wsOf c.ps h') = .ok () (wsOf c.ps (h' + 1)) := by
          unfold Df.takeR
          rw [hd_ws hp', if_pos hc, tl_ws]
        refine iteF ⟨_, rfl, c.r, dx', _, rfl, g1, lookupR _ (by decide +kernel) _ _ _, { c with ar := c.ar ++ ns.reverse }, h', ":", rfl, rfl, rfl, rfl, by decide +kernel, R', T', ?_⟩
        show RdOut { c with ar := c.ar ++ ns.reverse } H' valU (Df.takeR ":" (wsOf c.ps h')) _ E
        rw [ht]
        intro H2 h2 v k2 R2 e2 T2 hv
        cases hv
        have hl2 : H2 l = some (.lst (ns.reverse.map V.str)) := k2 _ _ nlN.1 nlN.2.1 nlN.2.2 hl'
        obtain ⟨dx2, items2, b1, b2, b3, b4, b5⟩ := R2.ex
        refine ⟨_, rfl, c.r, dx2, _, rfl, b1, lookupR _ (by decide +kernel) _ _ _, { c with ar := c.ar ++ ns.reverse }, h2, rfl, rfl, rfl, rfl, R2, T2, ?_⟩
        show RdOut { c with ar := c.ar ++ ns.reverse } H2 (valFm c) (Df.rowR d "or" (c.ar ++ ns.reverse) (wsOf c.ps h2)) _ E
        rw [show wsOf c.ps h2 = wsOf c.ps (h' + 1) from e2]
        cases hq : Df.rowR d "or" (c.ar ++ ns.reverse) (wsOf c.ps (h' + 1)) with
        | bad ws' => rw [hq] at ho'; exact ho'.mono (k'.trans k2)
        | out => rw [hq] at ho'; exact ho'.elim
        | ok f0 ws' =>
          rw [hq] at ho'
          intro H3 h3 v3 k3 R3 e3 T3 hv3
          have hl3 : H3 l = some (.lst (ns.reverse.map V.str)) := k3 _ _ nlN.1 nlN.2.1 nlN.2.2 hl2
          refine ⟨_, rfl, l, _, rfl, .inl (sq hl3), fun l2 nl2 => ⟨l2, _, rfl, sq upd_same, ?_⟩⟩
          have s4 := same_upd nl2 (o := .lst (ns.reverse.map V.str))
          have hl4 : (upd H3 l2 (.lst (ns.reverse.map V.str))) l2 = some (.lst (ns.reverse.map V.str)) := upd_same
          have nl2N : c.N l2 := RC.free (c := { c with ar := c.ar ++ ns.reverse }) R3 T3 nl2
          have nl2H : H l2 = none := by
            cases q : H l2 with
            | none => rfl
            | some o => rw [((k'.trans k2).trans k3) _ _ nl2N.1 nl2N.2.1 nl2N.2.2 q] at nl2; cases nl2
          have R4 := R3.mono s4
          have T4 := TabG.mono T3 s4
          have hv4 : Dt c.N (upd H3 l2 (.lst (ns.reverse.map V.str))) v3 (fmD f0) := Dt.mono s4 hv3
          have k4 : c.Kp H (upd H3 l2 (.lst (ns.reverse.map V.str))) := ((k'.trans k2).trans k3).trans (KR.same s4)
          generalize upd H3 l2 (.lst (ns.reverse.map V.str)) = H4 at s4 hl4 R4 T4 hv4 k4 ⊢
          have hxl : (ns.reverse.map V.str).length = ns.length := by rw [List.length_map, List.length_reverse]
          refine for_it (walk_rev (K := K) (a := l2) (xs := ns.reverse.map V.str)) (fun i σ H' => ∃ v4 w4, σ = [some (.ref c.r), some (.str p.1), some (.ref l), some v4, w4] ∧ c.Kp H H' ∧ RC.At { c with ar := c.ar ++ (ns.drop i).reverse } H' h3 ∧ c.T H' ∧ H' l2 = some (.lst (ns.reverse.map V.str)) ∧ Dt c.N H' v4 (fmD ((ns.take i).foldl (fun f x => .q p.1 x f) f0)))
            ⟨v3, none, rfl, k4, R4, T4, hl4, hv4⟩ (fun i σ H' _ ⟨_, _, _, _, _, _, h, _⟩ => sq h) ?_ ?_
          · rintro i y σ H8 H9 hi ⟨v4, w4, rfl, k9, R9, T9, hl9, hv9⟩ ⟨rfl, hy⟩
            rw [hxl] at hi hy
            have hyi : y = .str ns[i] := by
              have : (ns.reverse.map V.str)[ns.length - 1 - i]? = some (.str ns[i]) := by
                rw [List.getElem?_map, List.getElem?_reverse (by omega), show ns.length - 1 - (ns.length - 1 - i) = i by omega, List.getElem?_eq_getElem hi]
                rfl
              rw [this] at hy
              exact (Option.some.inj hy).symm
            subst hyi
            obtain ⟨dx9, items9, a1, a2, a3, a4, a5⟩ := R9.ex
            have hdr : ns.drop i = ns[i] :: ns.drop (i + 1) := List.drop_eq_getElem_cons hi
            have eA : ((c.ar ++ (ns.drop i).reverse).map V.str) = (c.ar ++ (ns.drop (i + 1)).reverse).map V.str ++ [V.str ns[i]] := by
              rw [hdr, List.reverse_cons, ← List.append_assoc, List.map_append]
              rfl
            have a4' : H9 c.A = some (.lst ((c.ar ++ (ns.drop (i + 1)).reverse).map V.str ++ [V.str ns[i]])) := by rw [← eA]; exact a4
            refine ⟨_, rfl, c.r, c.C, dx9, _, _, rfl, a1, RK.cl, RK.nA, rfl, .inl ⟨rfl, _, sq a4'⟩, c.A, _, .str ns[i], rfl, rfl, a4', ?_, ?_⟩
            · rw [List.length_append, show ((c.ar ++ (ns.drop (i + 1)).reverse).map V.str).length + [V.str ns[i]].length - 1 = ((c.ar ++ (ns.drop (i + 1)).reverse).map V.str).length by simp, List.getElem?_append_right (Nat.le_refl _), Nat.sub_self]
              rfl
            · rw [List.dropLast_concat]
              have R10 := R9.setA (ar2 := c.ar ++ (ns.drop (i + 1)).reverse) (by
                have := R9.ars
                simp only [List.length_append, List.length_reverse, List.length_drop] at this ⊢
                omega)
              have T10 := TabG.updl (o := .lst ((c.ar ++ (ns.drop (i + 1)).reverse).map V.str)) T9 a4
              have k10 : c.Kp H (upd H9 c.A (.lst ((c.ar ++ (ns.drop (i + 1)).reverse).map V.str))) := k9.trans KR.updA
              have hl10 : (upd H9 c.A (.lst ((c.ar ++ (ns.drop (i + 1)).reverse).map V.str))) l2 = some (.lst (ns.reverse.map V.str)) := by rw [upd_ne nl2N.2.1]; exact hl9
              have hv10 : Dt c.N (upd H9 c.A (.lst ((c.ar ++ (ns.drop (i + 1)).reverse).map V.str))) v4 (fmD ((ns.take i).foldl (fun f x => .q p.1 x f) f0)) := Dt.kr KR.updA hv9
              generalize upd H9 c.A (.lst ((c.ar ++ (ns.drop (i + 1)).reverse).map V.str)) = H10 at R10 T10 k10 hl10 hv10 ⊢
              refine ⟨_, rfl, _, rfl, _, rfl, by show 3 ≤ sizeLine; decide, fun t nt => ?_⟩
              have s11 := same_upd nt (o := .tup [V.str p.1, .str ns[i], v4])
              refine ⟨_, _, rfl, k10.trans (KR.same s11), R10.mono s11, TabG.mono T10 s11, s11 _ _ hl10, ?_⟩
              rw [tsn12 hi, List.foldl_append]
              show Dt c.N _ _ (fmD (.q p.1 ns[i] _))
              simp only [fmD]
              exact .tup ⟨RC.free (c := { c with ar := c.ar ++ (ns.drop (i + 1)).reverse }) R10 T10 nt, by show 3 ≤ 1000; decide⟩ upd_same (.cons (.str kk) (.cons (.str (hns _ (List.getElem_mem hi))) (.cons (hv10.mono s11) .nil)))
          · rintro σ H9 ⟨v4, w4, rfl, k9, R9, T9, hl9, hv9⟩
            rw [hxl] at R9 hv9
            rw [List.take_length] at hv9
            rw [List.drop_length, List.reverse_nil, List.append_nil] at R9
            exact ⟨_, rfl, ho' H9 h3 v4 k9 R9 e3 T9 hv9⟩
      · rw [if_neg hcond] at ho'
        by_cases hn : ns = []
        case' pos =>
          rw [decide_eq_true hn]
          refine iteT ?_
        case' neg =>
          have hc : p'.1 ≠ ":" := fun z => hcond ⟨hn, z⟩
          rw [decide_eq_false hn]
          refine iteF ⟨_, rfl, c.r, dx', _, rfl, g1, lookupR _ (by decide +kernel) _ _ _, c.r, c.W, c.A, c.ps, h', _, p', rfl, R', hp', rfl, _, rfl, ?_⟩
          rw [show (!decide (V.str p'.1 = V.str ":")) = true by simp [hc]]
        all_goals
          refine iteT ⟨fun σ' H2 => ∃ (h2 : Nat) (ns2 : List Str), σ' = [some (.ref c.r), some (.str p.1), some (.ref l), none, none] ∧ c.Kp H H2 ∧ H2 l = some (.lst (ns2.reverse.map V.str)) ∧ RC.At { c with ar := c.ar ++ ns2.reverse } H2 h2 ∧ c.T H2 ∧ (∀ x ∈ ns2, x.length ≤ 1000 ∧ PySem.PyData.strOk x = true) ∧ RdOut c H (valFm c) (Df.quL (fun ar ws => Df.rowR d "or" ar ws) m p.1 (c.ar ++ ns2.reverse) ns2 (wsOf c.ps h2)) Q E, fun σ' H2 hN => ⟨m, Nat.lt_succ_self m, hN⟩, ?_⟩
          refine ⟨_, rfl, c.r, dx', _, rfl, g1, lookupR _ (by decide +kernel) _ _ _, c.r, c.W, c.A, c.ps, h', _, p', rfl, R', hp', _, rfl, c.r, c.C, dx', _, _, rfl, g1, RK.cl, RK.nA, rfl, c.A, _, rfl, .inl (sq g4), rfl, flatS _, _, rfl, ?_⟩
          rw [inV_strs]
          cases hin : (c.ar ++ ns.reverse).contains p'.1 with
          | true =>
            rw [if_pos hin] at ho'
            refine iteT ⟨_, rfl, c.r, dx', _, rfl, g1, lookupR _ (by decide +kernel) _ _ _, c.r, c.W, c.A, c.ps, h', _, p', rfl, R', hp', ?_⟩
            exact fun H2 dd s3 nd hd => ho' H2 dd h' p' (k'.trans (KR.same s3)) (TabG.mono T' s3) hp' rfl hd
          | false =>
            rw [if_neg (by rw [hin]; decide)] at ho'
            refine iteF ⟨_, rfl, .inl ⟨rfl, _, sq hl'⟩, _, rfl, c.r, dx', _, rfl, g1, lookupR _ (by decide +kernel) _ _ _, { c with ar := c.ar ++ ns.reverse }, h', rfl, rfl, rfl, rfl, R', T', ?_⟩
            show RdOut { c with ar := c.ar ++ ns.reverse } H' valStr (Df.nameR (wsOf c.ps h')) _ E
            cases hq : Df.nameR (wsOf c.ps h') with
            | bad ws' => rw [hq] at ho'; exact ho'.mono k'
            | out => rw [hq] at ho'; exact ho'.elim
            | ok x ws' =>
              rw [hq] at ho'
              intro H2 h2 v k2 R2 e2 T2 hv
              cases hv
              have hx := name_len (nameR_is hq)
              have hh2 : h2 = h' + 1 := ws_inj R2.lt (by have := R2.lt; have b := R'.ok.next hp' (name_ne0 hq hp'); exact b) (by rw [e2, nameR_tl hq, tl_ws])
              have hl2 : H2 l = some (.lst (ns.reverse.map V.str)) := k2 _ _ nlN.1 nlN.2.1 nlN.2.2 hl'
              refine ⟨l, _, .str x, rfl, rfl, hl2, szlt (by rw [List.length_map, List.length_reverse]; omega), ?_⟩
              have R3 := R2.updl (o := .lst (ns.reverse.map V.str ++ [V.str x])) hl2 nlW nlN.2.1
              have T3 := TabG.updl (o := .lst (ns.reverse.map V.str ++ [V.str x])) T2 hl2
              have k3 : c.Kp H (upd H2 l (.lst (ns.reverse.map V.str ++ [V.str x]))) := (k'.trans k2).updl nlH
              have hl3 : (upd H2 l (.lst (ns.reverse.map V.str ++ [V.str x]))) l = some (.lst (ns.reverse.map V.str ++ [V.str x])) := upd_same
              generalize upd H2 l (.lst (ns.reverse.map V.str ++ [V.str x])) = H3 at R3 T3 k3 hl3 ⊢
              obtain ⟨dx3, items3, a1, a2, a3, a4, a5⟩ := R3.ex
              refine ⟨_, rfl, c.r, c.C, dx3, _, _, rfl, a1, RK.cl, RK.nA, rfl, .inl ⟨rfl, _, sq a4⟩, _, rfl, _, rfl, l, _, _, _, rfl, rfl, sq hl3, atI_last _ _, c.A, _, .str x, rfl, rfl, a4, szlt (by have := R3.ars; have := R3.lt; have := R3.ok.cnt; rw [List.length_map]; omega), ?_⟩
              have eA : ((c.ar ++ ns.reverse).map V.str ++ [V.str x]) = (c.ar ++ (x :: ns).reverse).map V.str := by simp
              rw [eA]
              refine ⟨h2, x :: ns, rfl, k3.trans KR.updA, ?_, ?_, ?_, ?_, ?_⟩
              · rw [upd_ne nlN.2.1, hl3]
                simp
              · exact R3.setA (ar2 := c.ar ++ (x :: ns).reverse) (by have := R'.ars; rw [hh2]; simp only [List.length_append, List.length_reverse, List.length_cons] at this ⊢; omega)
              · exact TabG.updl T3 a4
              · intro y hy
                rcases List.mem_cons.mp hy with rfl | hy
                · exact hx
                · exact hns y hy
              · have : (c.ar ++ (x :: ns).reverse) = (c.ar ++ ns.reverse) ++ [x] := by simp
                rw [this, e2]
                exact ho'
end
end K1

namespace K1
open PySem PySem.Spec PyProof.Rows L2 Ls
/-! ### a whole text is read -/
/-- what a text asks: its signs, and the number of its words -/
structure TxOk (x : Str) : Prop where
  len : x.length ≤ 100000
  ok : ∀ ps, lexS (csx x) 0 = .inl ps → WOk (wordsT x ps)
/-- the answer: a formula, or the column of the refusal -/
def readT (d : Nat) (x : Str) : Option (Df.Fm ⊕ Nat) := match lexS (csx x) 0 with
  | .inr j => some (.inr (j + 1))
  | .inl ps => match Df.readW d ((wordsT x ps).map (·.1)) with
    | .ok f _ => some (.inl f)
    | .bad ws => match (wordsT x ps)[(wordsT x ps).length - ws.length]? with
      | some p => some (.inr (p.2 + 1))
      | none => none
    | .out => none
def spInit (CR CE : Addr) : Sp := fun vs H Q E => ∃ (H0 : Hp) (x : Str) (r dx : Addr), vs = [.ref r, .str x] ∧ Same H0 H ∧ H0 r = none ∧ H r = some (.ins CR dx []) ∧ TxOk x ∧
  (∀ j, lexS (csx x) 0 = .inr j → ∀ H' d, Same H0 H' → H' d = some (.xd [("column", .int ((j + 1 : Nat) : Int)), ("line", .int 1)]) → E (.ref CE) (some d) H') ∧
  ∀ ps, lexS (csx x) 0 = .inl ps → ∀ H' W A, Same H0 H' → RdAt CR H' r W A (wordsT x ps) 0 [] → H0 A = none → Q .non H'
/-- all but the table is kept -/
def Kt (Pt : Addr) (H H' : Hp) : Prop := ∀ b o, b ≠ Pt → H b = some o → H' b = some o
def spRead (CE Pt : Addr) (d : Nat) : Sp := fun vs H Q E => ∃ x : Str, vs = [.str x] ∧ TxOk x ∧ GxR.TabG H Pt ∧ readT d x ≠ none ∧
  (∀ n, readT d x = some (.inr n) → ∀ H' dd, Kt Pt H H' → GxR.TabG H' Pt → H' dd = some (.xd [("column", .int (n : Nat)), ("line", .int 1)]) → E (.ref CE) (some dd) H') ∧
  ∀ f, readT d x = some (.inl f) → ∀ H' v, Kt Pt H H' → GxR.TabG H' Pt → Dt (fun b => b ≠ Pt) H' v (fmD f) → Q v H'
section
variable {P : Program} {w : World} {K : PySem.W.Frag} {mg : Str → Option Value} {base : Heap} {f W Pt C CE : Addr} {fd : FuncData} {k : Nat}
theorem sc_Reader___init__ : FnScope ["self", "text"] ["self", "text"] (defScope s_Reader___init__) := ⟨rfl, rfl, rfl, by decide +kernel, rfl, by decide +kernel, by decide +kernel⟩
theorem ok_init (F : NnP K "__init__" "Reader.__init__" s_Reader___init__ f fd) (G : Facts mg) (RK : RCls K C) (C_words_of : CalX P w K mg base 3 "words_of" (spWords CE) []) : FnOk P w K mg base (L2.CX P w) 4 f fd ["self", "text"] (spInit C CE) := by
  refine F.ok sc_Reader___init__ (fun vs H Q E h => ?_) (fun cdv A outer s H vs Q E hr h => ?_)
  · obtain ⟨H0, x, r, dx, rfl, _⟩ := h
    rfl
  · obtain ⟨H0, x, r, dx, rfl, s0, nr, hr0, hx, hbad, hgood⟩ := h
    have hu := hu_of hr
    refine ⟨_, (pss_cons (ps_fld (pv 0) (pe_cx C_words_of (takes_of rfl rfl rfl rfl) (fun _ _ _ _ h => h) hr (by decide) (by rfl) (pa_cons (pv 1) pa_nil)) rfl)
      (pss_cons (ps_fld (pv 0) pe_int rfl)
      (pss_one (ps_fld (pv 0) (pe_lst pa_nil) rfl)))), ?_⟩
    refine ⟨_, rfl, x, rfl, hx.len, fun j hj H' d s1 nd hd => hbad j hj H' d (s0.trans s1) hd, fun ps hps H1 l items s1 nl hl hw => ?_⟩
    have ok := hx.ok ps hps
    have nr1 : l ≠ r := fun z => by rw [z, hr0] at nl; cases nl
    have hr1 := s1 _ _ hr0
    refine ⟨_, rfl, r, C, dx, _, rfl, hr1, RK.cl, RK.nW, by show 0 < 1000; decide, ?_⟩
    have h2 : (upd H1 r (.ins C dx (putF "words" (.ref l) []))) r = some (.ins C dx (putF "words" (.ref l) [])) := upd_same
    refine ⟨_, rfl, r, C, dx, _, rfl, h2, RK.cl, RK.nH, by show 1 < 1000; decide, ?_⟩
    have h3 : (upd (upd H1 r (.ins C dx (putF "words" (.ref l) []))) r (.ins C dx (putF "here" (.int 0) (putF "words" (.ref l) [])))) r = some (.ins C dx (putF "here" (.int 0) (putF "words" (.ref l) []))) := upd_same
    refine ⟨by show 0 ≤ sizeLine; decide, fun A nA => ?_⟩
    have nA : (upd (upd H1 r (.ins C dx (putF "words" (.ref l) []))) r (.ins C dx (putF "here" (.int 0) (putF "words" (.ref l) [])))) A = none := nA
    have nAr : A ≠ r := fun z => by rw [z, h3] at nA; cases nA
    have s2 : Same H0 (upd (upd H1 r (.ins C dx (putF "words" (.ref l) []))) r (.ins C dx (putF "here" (.int 0) (putF "words" (.ref l) [])))) := same_mut (same_mut (s0.trans s1) nr) nr
    have s3 := same_upd nA (o := .lst [])
    have hl3 : (upd (upd H1 r (.ins C dx (putF "words" (.ref l) []))) r (.ins C dx (putF "here" (.int 0) (putF "words" (.ref l) [])))) l = some (.lst items) := by rw [upd_ne nr1, upd_ne nr1]; exact hl
    have hw3 : WdAt (upd (upd H1 r (.ins C dx (putF "words" (.ref l) []))) r (.ins C dx (putF "here" (.int 0) (putF "words" (.ref l) [])))) items (wordsT x ps) := hw.to fun b xs e => by
      have : b ≠ r := fun z => by rw [z, hr1] at e; cases e
      rw [upd_ne this, upd_ne this]
      exact e
    have h3' : (upd (upd (upd H1 r (.ins C dx (putF "words" (.ref l) []))) r (.ins C dx (putF "here" (.int 0) (putF "words" (.ref l) [])))) A (.lst [])) r = some (.ins C dx (putF "here" (.int 0) (putF "words" (.ref l) []))) := by rw [upd_ne (Ne.symm nAr)]; exact h3
    refine ⟨_, rfl, r, C, dx, _, rfl, h3', RK.cl, RK.nA, by show 2 < 1000; decide, ?_⟩
    generalize upd (upd H1 r (.ins C dx (putF "words" (.ref l) []))) r (.ins C dx (putF "here" (.int 0) (putF "words" (.ref l) []))) = H3 at *
    have nAl : l ≠ A := fun z => by rw [← z, hl3] at nA; cases nA
    refine hgood ps hps _ l A (same_mut (s2.trans s3) nr) ⟨⟨dx, items, upd_same, ?_, ?_, ?_, nAl⟩, ?_, ok, Nat.le_refl _⟩ ?_
    · rw [upd_ne nr1]
      exact s3 _ _ hl3
    · refine (hw3.to fun b xs e => s3 _ _ e).to fun b xs e => ?_
      rw [upd_ne fun z => by rw [z, h3'] at e; cases e]
      exact e
    · rw [upd_ne nAr]
      exact upd_same
    · show 0 < (toS ps ++ [_]).length
      rw [List.length_append]
      simp
    · cases q : H0 A with
      | none => rfl
      | some o => rw [s2 _ _ q] at nA; cases nA
theorem sc_read_formula : FnScope ["text", "reader", "found"] ["text"] (defScope s_read_formula) := ⟨rfl, rfl, rfl, by decide +kernel, rfl, by decide +kernel, by decide +kernel⟩
theorem ok_read_formula (d : Nat) (F : FnP K "read_formula" s_read_formula [] f fd) (G : Facts mg) (RK : RCls K C) (MX_Reader : MakX P w K mg base 4 "Reader" C (spInit C CE)) (S_word : MetS P w K mg base 1 C "word" (spWord C)) (X_refuse : MetX P w K mg base 3 C "refuse" (spRefuse C CE)) (X_formula : MetX P w K mg base (4 * d + 8) C "formula" (spForm C CE Pt d)) :
    FnOk P w K mg base (L2.CX P w) (4 * d + 8 + 1) f fd ["text"] (spRead CE Pt d) := by
  refine F.ok sc_read_formula (fun vs H Q E h => ?_) (fun cdv A outer s H vs Q E hr h => ?_)
  · obtain ⟨x, rfl, _⟩ := h
    rfl
  · obtain ⟨x, rfl, hx, hT, hno, hbad, hgood⟩ := h
    have hu := hu_of hr
    refine ⟨_, (pss_cons (ps_set (i := 1) sc_read_formula.nd rfl (.inl rfl) (pe_mkx MX_Reader (takes_of rfl rfl rfl rfl) (fun _ _ _ _ h => h) hr (by omega) (by rfl) (pa_cons (pv 0) pa_nil)))
      (pss_cons (ps_set (i := 2) sc_read_formula.nd rfl (.inl rfl) (pe_mx0 X_formula (takes_of rfl rfl rfl rfl) (fun _ _ _ _ h => h) hr (by omega) (pv 1)))
      (pss_cons (ps_if (pt_cmpR op_ne (pe_ms0 S_word hr (by omega) (pv 1)) pe_str (nomark _)) (pss_one (ps_expr (pe_mx0 X_refuse (takes_of rfl rfl rfl rfl) (fun _ _ _ _ h => h) hr (by omega) (pv 1)))) pss_nil)
      (pss_one (ps_ret (pv 2)))))), ?_⟩
    refine ⟨_, rfl, fun r dx nr ndx hne => ?_⟩
    have s45 : Same H (upd (upd H dx (.own r)) r (.ins C dx [])) := same_mut (same_upd ndx) nr
    refine ⟨H, x, r, dx, rfl, s45, nr, upd_same, hx, fun j hj H' dd s1 hd => ?_, fun ps hps H1 W A s1 R1 nA => ?_⟩
    · refine hbad (j + 1) ?_ H' dd (fun b o _ e => s1 b o e) (TabG.mono hT s1) hd
      unfold readT
      rw [hj]
    · have T1 := TabG.mono hT s1
      obtain ⟨dx1, items1, g1, g2, g3, g4, g5⟩ := R1.ex
      have kt : ∀ {H2 : Hp}, KR r A Pt H1 H2 → Kt Pt H H2 := fun k2 b o n e =>
        k2 b o (fun z => by rw [z, nr] at e; cases e) (fun z => by rw [z, nA] at e; cases e) n (s1 _ _ e)
      have hws0 : (wordsT x ps).map (·.1) = wsOf (wordsT x ps) 0 := rfl
      have hr : readT d x = match Df.readW d (wsOf (wordsT x ps) 0) with
          | .ok f _ => some (.inl f)
          | .bad ws => (match (wordsT x ps)[(wordsT x ps).length - ws.length]? with | some p => some (.inr (p.2 + 1)) | none => none)
          | .out => none := by
        unfold readT
        rw [hps, ← hws0]
      have badAt : ∀ (ws : List Str) (h' : Nat) (p : Str × Nat), Df.readW d (wsOf (wordsT x ps) 0) = .bad ws → (wordsT x ps)[h']? = some p → wsOf (wordsT x ps) h' = ws → readT d x = some (.inr (p.2 + 1)) := fun ws h' p e hp hw => by
        have hlt := (List.getElem?_eq_some_iff.mp hp).1
        have hl : (wordsT x ps).length - ws.length = h' := by
          rw [← hw]
          unfold wsOf
          rw [List.length_map, List.length_drop]
          omega
        rw [hr, e]
        show (match (wordsT x ps)[(wordsT x ps).length - ws.length]? with | some p => some (Sum.inr (p.2 + 1)) | none => none) = _
        rw [hl, hp]
      refine ⟨rfl, _, rfl, r, dx1, _, rfl, g1, lookupR _ (by decide +kernel) _ _ _, ⟨C, CE, Pt, r, W, A, wordsT x ps, []⟩, 0, rfl, rfl, rfl, rfl, R1, T1, ?_⟩
      show RdOut ⟨C, CE, Pt, r, W, A, wordsT x ps, []⟩ H1 (valFm ⟨C, CE, Pt, r, W, A, wordsT x ps, []⟩) (Df.rowR d "or" [] (wsOf (wordsT x ps) 0)) _ E
      cases hq : Df.rowR d "or" [] (wsOf (wordsT x ps) 0) with
      | out =>
        exact (hno (by
          rw [hr]
          unfold Df.readW
          rw [hq]
          rfl)).elim
      | bad ws =>
        intro H2 dd h' p k2 T2 hp hws hd
        have e : Df.readW d (wsOf (wordsT x ps) 0) = .bad ws := by
          unfold Df.readW
          rw [hq]
          rfl
        exact hbad _ (badAt ws h' p e hp hws) H2 dd (kt k2) T2 hd
      | ok fm ws =>
        intro H2 h2 v2 k2 R2 e2 T2 hv2
        obtain ⟨dx2, items2, a1, a2, a3, a4, a5⟩ := R2.ex
        obtain ⟨p, hp⟩ := R2.get
        have hp : (wordsT x ps)[h2]? = some p := hp
        have e2 : wsOf (wordsT x ps) h2 = ws := e2
        have hhd : Df.hd ws = p.1 := by rw [← e2]; exact hd_ws hp
        refine ⟨_, rfl, r, dx2, _, rfl, a1, lookupR _ (by decide +kernel) _ _ _, r, W, A, wordsT x ps, h2, [], p, rfl, R2, hp, rfl, _, rfl, ?_⟩
        by_cases c1 : p.1 = ""
        · rw [show (!decide (V.str p.1 = V.str "")) = false by simp [c1]]
          refine iteF ⟨_, rfl, hgood fm ?_ H2 v2 (kt k2) T2 (hv2.to (fun _ n => n.2.2) fun _ _ _ e => e)⟩
          rw [hr]
          unfold Df.readW
          rw [hq, Df.bind_ok, hhd, if_pos c1]
        · rw [show (!decide (V.str p.1 = V.str "")) = true by simp [c1]]
          refine iteT ⟨_, rfl, r, dx2, _, rfl, a1, lookupR _ (by decide +kernel) _ _ _, r, W, A, wordsT x ps, h2, [], p, rfl, R2, hp, fun H3 dd s3 nd hd => ?_⟩
          have e : Df.readW d (wsOf (wordsT x ps) 0) = .bad ws := by
            unfold Df.readW
            rw [hq, Df.bind_ok, hhd, if_neg c1]
          exact hbad _ (badAt ws h2 p e hp e2) H3 dd (kt (k2.trans (KR.same s3))) (TabG.mono T2 s3) hd
end
end K1

namespace K1
open PySem PySem.Spec PyProof.Rows L2 Ls
/-! ### texts are written -/
theorem int_text : ∀ n ≤ 9, csx (toString ((n : Nat) : Int)) = Df.csS (Df.numW n) ∧ csx (toString (-((n : Nat) : Int))) = (if 0 < n then 45 :: Df.csS (Df.numW n) else Df.csS (Df.numW n)) := by decide +kernel
theorem app_cs (x y : Str) : csx (x ++ y) = csx x ++ csx y := by
  show (x.cps ++ y.cps).toList = _
  rw [Array.toList_append]
theorem app_len (x y : Str) : (x ++ y).length = x.length + y.length := by rw [csx_len, app_cs, List.length_append, ← csx_len, ← csx_len]
theorem len_empty : Str.empty.length = 0 := rfl
def spWAtom : Sp := fun vs H Q _ => ∃ (N : Addr → Prop) (v : V) (a : Str × Int), vs = [v] ∧ Dt N H v (atD a) ∧ Df.OkA a ∧ ∀ y, csx y = Df.atomC a → Q (.str y) H
section
variable {P : Program} {w : World} {K : PySem.W.Frag} {mg : Str → Option Value} {base : Heap} {f W Pt C CE : Addr} {fd : FuncData} {k : Nat}
theorem sc_write_atom : FnScope ["atom", "name", "shift"] ["atom"] (defScope s_write_atom) := ⟨rfl, rfl, rfl, by decide +kernel, rfl, by decide +kernel, by decide +kernel⟩
theorem ok_write_atom (F : FnP K "write_atom" s_write_atom [] f fd) (G : Facts mg) : FnOk P w K mg base CX0 1 f fd ["atom"] spWAtom := by
  refine F.ok sc_write_atom (fun vs H Q E h => ?_) (fun cdv A outer s H vs Q E hr h => ?_)
  · obtain ⟨N, v, a, rfl, _⟩ := h
    rfl
  · obtain ⟨N, v, ⟨x, i⟩, rfl, hd, ha, hk⟩ := h
    have hu := hu_of hr
    refine ⟨_, PSs.nox (pss_cons (ps_asg (pv 0) (kpg_tup K rfl (pgs_cons (pg_name (i := 1) sc_write_atom.nd rfl (by first | exact .inl rfl | exact .inr rfl)) (pgs_cons (pg_name (i := 2) sc_write_atom.nd rfl (by first | exact .inl rfl | exact .inr rfl)) pgs_nil))))
      (pss_cons (ps_if (pt_cmpR op_eq (pv 1) pe_str (nomark _)) (pss_one (ps_ret (pe_callTy call_str_int (by rfl) G.str_ (by decide +kernel) (pa_cons (pv 2) pa_nil)))) pss_nil)
      (pss_cons (ps_if (pt_cmpR op_eq (pv 2) pe_int (nomark _)) (pss_one (ps_ret (pv 1))) pss_nil)
      (pss_one (ps_ret (pe_ifExp (pt_cmpR op_gt (pv 2) pe_int (nomark _)) (pe_joined (.cons (pe_fmt (pv 1)) (.cons pe_str (.cons (pe_fmt (pv 2)) .nil)))) (pe_joined (.cons (pe_fmt (pv 1)) (.cons pe_str (.cons (pe_fmt (pe_op op_sub pe_int (pv 2))) .nil)))))))))), ?_⟩
    obtain ⟨t, xs, rfl, nt, lt, et, hd⟩ := Dt.tup_ hd
    cases hd with
    | cons h1 hd => cases hd with
      | cons h2 hd =>
        cases hd
        cases h1 with
        | str hx =>
          cases h2 with
          | int =>
            refine ⟨_, rfl, t, _, rfl, sqt et, rfl, ?_⟩
            refine ⟨_, _, rfl, _, _, rfl, rfl, _, rfl, rfl, _, rfl, ?_⟩
            have hi : i.natAbs ≤ 9 := ha.i
            have hlog : i.natAbs.log2 < 1920 := by
              have : ∀ n ≤ 9, Nat.log2 n < 1920 := by decide +kernel
              exact this _ hi
            have hlog2 : (0 - i).natAbs.log2 < 1920 := by rw [show (0 - i).natAbs = i.natAbs by omega]; exact hlog
            have hi1 : 0 ≤ i → csx (toString i) = Df.csS (Df.numW i.natAbs) := fun h => by
              have := (int_text i.natAbs hi).1
              rw [show ((i.natAbs : Nat) : Int) = i by omega] at this
              exact this
            have hi2 : i < 0 → csx (toString i) = 45 :: Df.csS (Df.numW i.natAbs) := fun h => by
              have := (int_text i.natAbs hi).2
              rw [show (-((i.natAbs : Nat) : Int)) = i by omega, if_pos (by omega)] at this
              exact this
            have hi3 : i < 0 → csx (toString (0 - i)) = Df.csS (Df.numW i.natAbs) := fun h => by
              have := (int_text i.natAbs hi).1
              rw [show ((i.natAbs : Nat) : Int) = 0 - i by omega] at this
              exact this
            have hsmall : ∀ n ≤ 9, (Df.csS (Df.numW n)).length ≤ 10 := by decide +kernel
            have hsm := hsmall _ hi
            by_cases hx0 : x = "0"
            · rw [show decide (V.str x = V.str "0") = true by simp [hx0]]
              refine iteT ⟨_, rfl, _, rfl, hlog, hk _ ?_⟩
              subst hx0
              by_cases hneg : i < 0
              · rw [hi2 hneg]; simp [Df.atomC, hneg]
              · rw [hi1 (by omega)]; simp [Df.atomC, hneg]
            · rw [show decide (V.str x = V.str "0") = false by simp [hx0]]
              refine iteF ⟨_, rfl, rfl, _, rfl, ?_⟩
              by_cases hz : i = 0
              · rw [show decide (V.int i = V.int 0) = true by simp [hz]]
                exact iteT ⟨_, rfl, hk _ (by simp [Df.atomC, hx0, hz]; rfl)⟩
              · rw [show decide (V.int i = V.int 0) = false by simp [hz]]
                refine iteF ⟨_, rfl, _, _, rfl, rfl, _, rfl, ?_⟩
                have hxl : x.length ≤ 1000 := hx.1
                by_cases hp : 0 < i
                · rw [show decide ((0 : Int) < i) = true from decide_eq_true hp]
                  have htl : (toString i : Str).length ≤ 10 := by rw [csx_len, hi1 (by omega)]; exact hsm
                  refine iteT ⟨_, rfl, .inl ⟨_, rfl, szl (by omega), _, rfl, szl (by rw [app_len, len_empty]; omega), _, rfl, szl (by rw [app_len, app_len, len_empty, show (" + " : Str).length = 3 from rfl]; omega), _, rfl, .inr ⟨_, rfl, hlog, _, rfl, szl (by rw [app_len, app_len, app_len, len_empty, show (" + " : Str).length = 3 from rfl]; change 0 + x.length + 3 + (toString i : Str).length ≤ 1000000; omega), ?_⟩⟩⟩
                  refine hk _ ?_
                  rw [app_cs, app_cs, app_cs, hi1 (by omega)]
                  simp only [Df.atomC, if_neg hx0, if_neg hz, if_pos hp]
                  rfl
                · rw [show decide ((0 : Int) < i) = false from decide_eq_false hp]
                  have htl : (toString (0 - i) : Str).length ≤ 10 := by rw [csx_len, hi3 (by omega)]; exact hsm
                  refine iteF ⟨_, rfl, .inl ⟨_, rfl, szl (by omega), _, rfl, szl (by rw [app_len, len_empty]; omega), _, rfl, szl (by rw [app_len, app_len, len_empty, show (" - " : Str).length = 3 from rfl]; omega), _, rfl, _, _, rfl, rfl, .inr ⟨_, rfl, hlog2, _, rfl, szl (by rw [app_len, app_len, app_len, len_empty, show (" - " : Str).length = 3 from rfl]; change 0 + x.length + 3 + (toString (0 - i) : Str).length ≤ 1000000; omega), ?_⟩⟩⟩
                  refine hk _ ?_
                  rw [app_cs, app_cs, app_cs, hi3 (by omega)]
                  simp only [Df.atomC, if_neg hx0, if_neg hz, if_neg hp]
                  rfl
end
end K1

namespace K1
open PySem PySem.Spec PyProof.Rows L2 Ls
theorem join_cs (sep p : Str) (r : List Str) : csx (Txt.join sep (p :: r)) = csx p ++ StrLaws.glueL (csx sep) r := StrLaws.glued_list sep p r
theorem glue_app (z : List Nat) : ∀ (a b : List Str), StrLaws.glueL z (a ++ b) = StrLaws.glueL z a ++ StrLaws.glueL z b
  | [], b => rfl
  | p :: a, b => by
    show z ++ (p.cps.toList ++ StrLaws.glueL z (a ++ b)) = (z ++ (p.cps.toList ++ StrLaws.glueL z a)) ++ _
    rw [glue_app z a b]
    simp
/-- the kind of a formula, as its first item -/
def kindF : Df.Fm → Str
  | .cmp _ _ _ => "compare"
  | .no _ => "not"
  | .q k _ _ => k
  | .row k _ => k
/-- the items behind -/
def restF : Df.Fm → List PyData
  | .cmp op l r => [.str op, atD l, atD r]
  | .no f => [fmD f]
  | .q _ n f => [.str n, fmD f]
  | .row _ fs => [.tuple (fmDs fs)]
theorem fmD_eq (f : Df.Fm) : fmD f = .tuple (.str (kindF f) :: restF f) := by
  cases f <;> simp [fmD, kindF, restF]
def OkX (f : Df.Fm) : Prop := ∃ ar, Df.OkF ar f
theorem part_len {k : Str} : ∀ {fs : List Df.Fm} {f : Df.Fm}, f ∈ fs → (Df.fmC true f).length ≤ (Df.sepC k (Df.fmsC fs)).length
  | [g], f, h => by
    rw [List.mem_singleton.mp h]
    simp [Df.fmsC, Df.sepC]
  | g :: g2 :: gs, f, h => by
    have e : Df.sepC k (Df.fmsC (g :: g2 :: gs)) = Df.fmC true g ++ (32 :: Df.csS k ++ [32]) ++ Df.sepC k (Df.fmsC (g2 :: gs)) := by simp [Df.fmsC, Df.sepC]
    rw [e, List.length_append, List.length_append]
    rcases List.mem_cons.mp h with rfl | h
    · omega
    · have := part_len (k := k) h
      omega
theorem len_bl : (" " : Str).length = 1 := rfl
theorem fmsC_map : ∀ fs : List Df.Fm, Df.fmsC fs = fs.map (Df.fmC true)
  | [] => by simp [Df.fmsC]
  | f :: fs => by simp [Df.fmsC, fmsC_map fs]
theorem fmDs_map : ∀ fs : List Df.Fm, fmDs fs = fs.map fmD
  | [] => by simp [fmDs]
  | f :: fs => by simp [fmDs, fmDs_map fs]
theorem glue_sepC {k : Str} {z : List Nat} (hz : z = 32 :: Df.csS k ++ [32]) : ∀ (p : Str) (r : List Str), csx p ++ StrLaws.glueL z r = Df.sepC k ((p :: r).map csx)
  | p, [] => by simp [StrLaws.glueL, Df.sepC]
  | p, q :: r => by
    have ih := glue_sepC hz q r
    simp only [List.map_cons] at ih ⊢
    rw [Df.sepC, ← ih, StrLaws.glueL, hz]
    · simp
    · intro z
      cases z
theorem sum_glue2 {a : Str} {z : List Nat} (hz : z.length = a.length) : ∀ ys : List Str, (ys.map (·.length)).sum + ys.length * a.length = (StrLaws.glueL z ys).length
  | [] => by simp [StrLaws.glueL]
  | y :: ys => by
    have ih := sum_glue2 hz ys
    have hy : y.length = (csx y).length := csx_len y
    simp only [List.map_cons, List.sum_cons, List.length_cons, StrLaws.glueL, List.length_append, Nat.succ_mul]
    change y.length + _ + _ = z.length + ((csx y).length + _)
    omega
theorem kind_q {ar : List Str} {g' : Df.Fm} {k : Str} (ok : Df.OkF ar g') (hk' : k = "all" ∨ k = "some") (hkk : kindF g' = k) : ∃ n2 g2, g' = .q k n2 g2 ∧ OkX g2 ∧ Df.isNameW n2 = true := by
  have d1 : ("compare" : Str) ≠ "all" ∧ ("compare" : Str) ≠ "some" ∧ ("not" : Str) ≠ "all" ∧ ("not" : Str) ≠ "some" ∧ ("or" : Str) ≠ "all" ∧ ("or" : Str) ≠ "some" ∧ ("and" : Str) ≠ "all" ∧ ("and" : Str) ≠ "some" := by decide +kernel
  obtain ⟨c1, c2, c3, c4, c5, c6, c7, c8⟩ := d1
  cases ok with
  | cmp =>
    have hkk : ("compare" : Str) = k := hkk
    rcases hk' with e | e
    · exact absurd (hkk.trans e) c1
    · exact absurd (hkk.trans e) c2
  | no =>
    have hkk : ("not" : Str) = k := hkk
    rcases hk' with e | e
    · exact absurd (hkk.trans e) c3
    · exact absurd (hkk.trans e) c4
  | @row _ kr fs hkr =>
    have hkk : kr = k := hkk
    rcases hkr with e1 | e1 <;> rcases hk' with e | e
    · exact absurd (e1.symm.trans (hkk.trans e)) c5
    · exact absurd (e1.symm.trans (hkk.trans e)) c6
    · exact absurd (e1.symm.trans (hkk.trans e)) c7
    · exact absurd (e1.symm.trans (hkk.trans e)) c8
  | @q _ kq n2 g2 _ hnn _ hgg =>
    have hkk : kq = k := hkk
    subst hkk
    exact ⟨n2, g2, rfl, ⟨_, hgg⟩, hnn⟩
theorem qC_body {k : Str} {g : Df.Fm} (h : kindF g ≠ k) : Df.qC k g = 58 :: 32 :: Df.fmC false g := by
  cases g with
  | cmp => simp [Df.qC, Df.fmC]
  | no => simp [Df.qC, Df.fmC]
  | row => simp [Df.qC, Df.fmC]
  | q k2 n g =>
    have h : ¬ k2 = k := h
    simp [Df.qC, Df.fmC, h]
theorem par_len (g : Df.Fm) : (Df.fmC true g).length ≤ (Df.fmC false g).length + 2 := by
  cases g <;> simp [Df.fmC] <;> omega
theorem sum_glue : ∀ ys : List Str, (ys.map (·.length)).sum + ys.length = (StrLaws.glueL [32] ys).length
  | [] => rfl
  | y :: ys => by
    have ih := sum_glue ys
    have hy : y.length = (csx y).length := csx_len y
    simp only [List.map_cons, List.sum_cons, List.length_cons, StrLaws.glueL, List.length_append, List.length_nil]
    change y.length + _ + _ = 1 + ((csx y).length + _)
    omega
def spWrite (d : Nat) : Sp := fun vs H Q _ => ∃ (N : Addr → Prop) (v : V) (f : Df.Fm) (b : Bool), vs = [v, .bl b] ∧ Dt N H v (fmD f) ∧ OkX f ∧ Df.ht f < d ∧ (Df.fmC true f).length ≤ 100000 ∧ ∀ H' y, Same H H' → csx y = Df.fmC b f → Q (.str y) H'
theorem kinds_ok {ar : List Str} {f : Df.Fm} (h : Df.OkF ar f) : (kindF f).length ≤ 10 := by
  have c : ∀ x ∈ (["compare", "not", "all", "some", "or", "and"] : List Str), x.length ≤ 10 := by decide +kernel
  cases h with
  | cmp => exact c _ (by simp [kindF])
  | no => exact c _ (by simp [kindF])
  | q hk => exact c _ (by rcases hk with rfl | rfl <;> simp [kindF])
  | row hk => exact c _ (by rcases hk with rfl | rfl <;> simp [kindF])
theorem sml {y : Str} {n : Nat} (h : (csx y).length ≤ n) : y.length ≤ n := by rw [csx_len]; exact h
section
variable {P : Program} {w : World} {K : PySem.W.Frag} {mg : Str → Option Value} {base : Heap} {f W Pt C CE : Addr} {fd : FuncData} {k : Nat}
theorem sc_write_formula : FnScope ["formula", "inside", "kind", "names", "body", "found", "part"] ["formula", "inside"] (defScope s_write_formula) := ⟨rfl, rfl, rfl, by decide +kernel, rfl, by decide +kernel, by decide +kernel⟩
theorem ok_write_formula0 {kws : List (Str × V)} (F : FunD K "write_formula" "write_formula" (defArgs s_write_formula) (defBody s_write_formula) (defScope s_write_formula) [] kws f fd) {n : Nat} : FnOk P w K mg base CX0 (n + 1) f fd ["formula", "inside"] (spWrite 0) := by
  refine F.ok sc_write_formula (fun vs H Q E h => ?_) (fun cdv A outer s H vs Q E hr h => ?_)
  · obtain ⟨N, v, f, b, rfl, _⟩ := h
    rfl
  · obtain ⟨N, v, f, b, rfl, hd, hf, hlt, _⟩ := h
    exact absurd hlt (Nat.not_lt_zero _)
theorem ok_write_formulaS (d : Nat) {kws : List (Str × V)} (F : FunD K "write_formula" "write_formula" (defArgs s_write_formula) (defBody s_write_formula) (defScope s_write_formula) [] kws f fd) (G : Facts mg) (C_write_atom : Cal P w K mg base 1 "write_atom" spWAtom []) (C_write_formula : Cal P w K mg base (d + 2) "write_formula" (spWrite d) [.bl false]) (K_write_formula : CalK P w K mg base (d + 2) "write_formula" (spWrite d) 1 ["inside"] (fun vs zs => vs ++ zs)) :
    FnOk P w K mg base CX0 (d + 2 + 1) f fd ["formula", "inside"] (spWrite (d + 1)) := by
  refine F.ok sc_write_formula (fun vs H Q E h => ?_) (fun cdv A outer s H vs Q E hr h => ?_)
  · obtain ⟨N, v, f, b, rfl, _⟩ := h
    rfl
  · obtain ⟨N, v, fm, b, rfl, hd, ⟨ar, hf⟩, hlt, hlen, hk⟩ := h
    have hu := hu_of hr
    refine ⟨_, PSs.nox (pss_cons (ps_set (i := 2) sc_write_formula.nd rfl (.inl rfl) (pe_ix (kIxT K) (pv 0) pe_int (fun _ _ => rfl)))
      (pss_cons (ps_if (pt_cmpR op_eq (pv 2) pe_str (nomark _)) (pss_one (ps_ret (pe_joined (.cons (pe_fmt (pe_c C_write_atom hr (by omega) (by rfl) (pa_cons (pe_ix (kIxT K) (pv 0) pe_int (fun _ _ => rfl)) pa_nil))) (.cons pe_str (.cons (pe_fmt (pe_ix (kIxT K) (pv 0) pe_int (fun _ _ => rfl))) (.cons pe_str (.cons (pe_fmt (pe_c C_write_atom hr (by omega) (by rfl) (pa_cons (pe_ix (kIxT K) (pv 0) pe_int (fun _ _ => rfl)) pa_nil))) .nil)))))))) pss_nil)
      (pss_cons (ps_if (pt_cmpR op_eq (pv 2) pe_str (nomark _)) (pss_one (ps_ret (pe_joined (.cons pe_str (.cons (pe_fmt (pe_ck K_write_formula hr (by omega) (by rfl) (pa_cons (pe_ix (kIxT K) (pv 0) pe_int (fun _ _ => rfl)) pa_nil) (pk_cons pe_bl pk_nil))) .nil))))) pss_nil)
      (pss_cons (ps_if (pt_cmpR (kIn K) (pv 2) (pe_tup (pa_cons pe_str (pa_cons pe_str pa_nil))) (by rfl)) (pss_cons (ps_set (i := 3) sc_write_formula.nd rfl (.inl rfl) (pe_lst (pa_cons (pe_ix (kIxT K) (pv 0) pe_int (fun _ _ => rfl)) pa_nil)))
        (pss_cons (ps_set (i := 4) sc_write_formula.nd rfl (.inl rfl) (pe_ix (kIxT K) (pv 0) pe_int (fun _ _ => rfl)))
        (pss_cons (ps_while PassesOwn.never (pt_cmpR op_eq (pe_ix (kIxT K) (pv 4) pe_int (fun _ _ => rfl)) (pv 2) (nomark _)) (pss_cons (ps_expr (pe_bm PySem.F.plainAttrs_list PySem.F.slot_list_append PySem.F.type_list_append mt_append (pv 3) (pa_cons (pe_ix (kIxT K) (pv 4) pe_int (fun _ _ => rfl)) pa_nil)))
          (pss_one (ps_set (i := 4) sc_write_formula.nd rfl (.inl rfl) (pe_ix (kIxT K) (pv 4) pe_int (fun _ _ => rfl))))))
        (pss_one (ps_set (i := 5) sc_write_formula.nd rfl (.inl rfl) (pe_joined (.cons (pe_fmt (pv 2)) (.cons pe_str (.cons (pe_fmt (pe_bm PySem.F.plainAttrs_str PySem.F.slot_str_join PySem.F.type_str_join mt_join pe_str (pa_cons (pv 3) pa_nil))) (.cons pe_str (.cons (pe_fmt (pe_c C_write_formula hr (by omega) (by rfl) (pa_cons (pv 4) pa_nil))) .nil))))))))))) (pss_one (ps_set (i := 5) sc_write_formula.nd rfl (.inl rfl) (pe_bm PySem.F.plainAttrs_str PySem.F.slot_str_join PySem.F.type_str_join mt_join (pe_joined (.cons pe_str (.cons (pe_fmt (pv 2)) (.cons pe_str .nil)))) (pa_cons (pe_lc (own := [("part", 6)]) (g := gName 6) (tt := tYes) rfl sc_write_formula.nd  (kpi_tup K (pe_ix (kIxT K) (pv 0) pe_int (fun _ _ => rfl))) (blkOk_by (by kernel_rfl)) (fun _ _ _ _ _ => (pg_name (i := 6) sc_write_formula.nd rfl (by first | exact .inl rfl | exact .inr rfl))) (fun _ _ _ _ _ => pts_nil) (fun _ _ _ _ _ => (pe_ck K_write_formula hr (by omega) (by rfl) (pa_cons (pv 6) pa_nil) (pk_cons pe_bl pk_nil)))) pa_nil)))))
      (pss_one (ps_ret (pe_ifExp (pt_val (pv 1)) (pe_joined (.cons pe_str (.cons (pe_fmt (pv 5)) (.cons pe_str .nil)))) (pv 5)))))))), ?_⟩
    have hd0 := hd
    rw [fmD_eq] at hd
    obtain ⟨t, xs, rfl, nt, lt, et, hd⟩ := Dt.tup_ hd
    obtain ⟨xs, rfl⟩ : ∃ xs', xs = .str (kindF fm) :: xs' := by
      cases hd with
      | cons h1 hd =>
        cases h1
        exact ⟨_, rfl⟩
    have hd : DtAll N H xs (restF fm) := by
      cases hd with
      | cons h1 hd => exact hd
    have hkl := kinds_ok hf
    refine ⟨_, rfl, t, _, _, _, rfl, rfl, sqt et, atI_nat (j := 0) rfl, ?_⟩
    refine ⟨_, rfl, rfl, _, rfl, ?_⟩
    cases hf with
    | @cmp _ op l r ho hl hr' =>
      have e0 : decide (V.str (kindF (.cmp op l r)) = V.str "compare") = true := decide_eq_true rfl
      rw [e0]
      cases hd with
      | cons h1 hd => cases hd with
        | cons h2 hd => cases hd with
          | cons h3 hd =>
            cases hd
            cases h1
            have ol := (op_ok ho).1
            have eC : Df.fmC true (.cmp op l r) = Df.atomC l ++ (32 :: Df.csS op ++ [32]) ++ Df.atomC r := by simp [Df.fmC]
            have eB : Df.fmC b (.cmp op l r) = Df.atomC l ++ (32 :: Df.csS op ++ [32]) ++ Df.atomC r := by simp [Df.fmC]
            rw [eC] at hlen
            simp only [List.length_append] at hlen
            refine iteT ⟨_, rfl, t, _, _, _, rfl, rfl, sqt et, atI_nat (j := 2) rfl, N, _, l, rfl, h2, hl, fun y1 hy1 => ?_⟩
            have l1 : y1.length ≤ 100000 := sml (by rw [hy1]; omega)
            refine .inl ⟨_, rfl, szl (by omega), _, rfl, szl (by rw [app_len, len_empty]; omega), _, rfl, szl (by rw [app_len, app_len, len_empty, len_bl]; omega), ?_⟩
            refine ⟨_, rfl, t, _, _, _, rfl, rfl, sqt et, atI_nat (j := 1) rfl, .inl ⟨_, rfl, szl (by omega), _, rfl, szl (by rw [app_len, app_len, app_len, len_empty, len_bl]; omega), _, rfl, szl (by rw [app_len, app_len, app_len, app_len, len_empty, len_bl]; omega), ?_⟩⟩
            refine ⟨_, rfl, t, _, _, _, rfl, rfl, sqt et, atI_nat (j := 3) rfl, N, _, r, rfl, h3, hr', fun y2 hy2 => ?_⟩
            have l2 : y2.length ≤ 100000 := sml (by rw [hy2]; omega)
            refine .inl ⟨_, rfl, szl (by omega), _, rfl, szl (by rw [app_len, app_len, app_len, app_len, app_len, len_empty, len_bl]; omega), ?_⟩
            refine hk H _ (Same.refl H) ?_
            rw [app_cs, app_cs, app_cs, app_cs, app_cs, hy1, hy2, eB]
            show [] ++ Df.atomC l ++ [32] ++ Df.csS op ++ [32] ++ Df.atomC r = _
            simp
    | @no _ g hg =>
      have e0 : decide (V.str (kindF (.no g)) = V.str "compare") = false := by
        show decide (V.str "not" = V.str "compare") = false
        decide +kernel
      rw [e0]
      have e1 : decide (V.str (kindF (.no g)) = V.str "not") = true := decide_eq_true rfl
      cases hd with
      | cons h1 hd =>
        cases hd
        refine iteF ⟨_, rfl, rfl, _, rfl, ?_⟩
        rw [e1]
        have eC : ∀ b, Df.fmC b (.no g) = Df.csS "not " ++ Df.fmC true g := fun b => by simp [Df.fmC]
        rw [eC] at hlen
        rw [List.length_append] at hlen
        refine iteT ⟨_, rfl, szl (by decide +kernel), _, rfl, t, _, _, _, rfl, rfl, sqt et, atI_nat (j := 1) rfl, N, _, g, true, rfl, h1, ⟨_, hg⟩, by simp only [Df.ht] at hlt; omega, by omega, fun H2 y s2 hy => ?_⟩
        have l1 : y.length ≤ 100000 := sml (by rw [hy]; omega)
        refine .inl ⟨_, rfl, szl (by omega), _, rfl, szl (by rw [app_len, app_len, len_empty]; change 0 + 4 + y.length ≤ _; omega), ?_⟩
        refine hk H2 _ s2 ?_
        rw [app_cs, app_cs, hy, eC]
        rfl
    | @q _ k n g hk' hn hfr hg =>
      have e0 : decide (V.str (kindF (.q k n g)) = V.str "compare") = false := by
        show decide (V.str k = V.str "compare") = false
        rcases hk' with rfl | rfl <;> decide +kernel
      rw [e0]
      have e1 : decide (V.str (kindF (.q k n g)) = V.str "not") = false := by
        show decide (V.str k = V.str "not") = false
        rcases hk' with rfl | rfl <;> decide +kernel
      refine iteF ⟨_, rfl, rfl, _, rfl, ?_⟩
      rw [e1]
      refine iteF ⟨_, rfl, by show 2 ≤ sizeLine; decide, fun t2 nt2 => ⟨t2, _, rfl, .inr (sqt upd_same), rfl, rfl, _, rfl, ?_⟩⟩
      have s2 := same_upd nt2 (o := .tup [V.str "all", V.str "some"])
      have et2 := s2 _ _ et
      have hd2 : DtAll N (upd H t2 (.tup [V.str "all", V.str "some"])) xs (restF (.q k n g)) := hd.mono s2
      generalize upd H t2 (.tup [V.str "all", V.str "some"]) = H2 at s2 et2 hd2 ⊢
      rw [show inV (V.str (kindF (.q k n g))) [V.str "all", V.str "some"] = [("all" : Str), "some"].contains k from inV_strs k [("all" : Str), "some"]]
      rw [show [("all" : Str), "some"].contains k = true by rcases hk' with rfl | rfl <;> decide +kernel]
      cases hd2 with
      | cons h1 hd2 => cases hd2 with
        | cons h2 hd2 =>
          cases hd2
          cases h1
          refine iteT ⟨_, rfl, t, _, _, _, rfl, rfl, sqt et2, atI_nat (j := 1) rfl, by show 1 ≤ sizeLine; decide, fun l nl => ?_⟩
          have s3 := same_upd nl (o := .lst [V.str n])
          refine ⟨_, rfl, t, _, _, _, rfl, rfl, sqt (s3 _ _ et2), atI_nat (j := 2) rfl, ?_⟩
          have eC : Df.fmC true (.q k n g) = 40 :: (Df.fmC false (.q k n g) ++ [41]) := by simp [Df.fmC]
          have eF : Df.fmC false (.q k n g) = Df.csS k ++ (32 :: Df.csS n) ++ Df.qC k g := by simp [Df.fmC]
          rw [eC, eF] at hlen
          simp only [List.length_cons, List.length_append, List.length_nil] at hlen
          refine ⟨fun m σ H' => ∃ (v' : V) (g' : Df.Fm) (yr : List Str), m = Df.ht g' ∧ σ = [some (.ref t), some (.bl b), some (.str k), some (.ref l), some v', none, none] ∧ Same H2 H' ∧ H' l = some (.lst ((n :: yr).map V.str)) ∧ Dt N H' v' (fmD g') ∧ OkX g' ∧ Df.ht g' < d ∧ Df.csS n ++ StrLaws.glueL [32] yr ++ Df.qC k g' = Df.csS n ++ Df.qC k g,
            ⟨_, _, g, [], rfl, rfl, s3, upd_same, Dt.mono s3 h2, ⟨_, hg⟩, by simp only [Df.ht] at hlt; omega, by simp [StrLaws.glueL]⟩, ?_⟩
          rintro m σ H' ⟨v', g', yr, rfl, rfl, s4, hl4, hv4, ⟨ar4, ok4⟩, ht4, eq4⟩
          have hv4' := hv4
          rw [fmD_eq] at hv4'
          obtain ⟨t4, xs4, rfl, n4, len4, et4, hd4⟩ := Dt.tup_ hv4'
          obtain ⟨xs4, rfl⟩ : ∃ xs', xs4 = .str (kindF g') :: xs' := by
            cases hd4 with
            | cons h1 hd =>
              cases h1
              exact ⟨_, rfl⟩
          have hd4 : DtAll N H' xs4 (restF g') := by
            cases hd4 with
            | cons h1 hd => exact hd
          have hgl : ∀ ys : List Str, ys.length ≤ (StrLaws.glueL [32] ys).length := fun ys => by
            induction ys with
            | nil => exact Nat.le_refl _
            | cons y ys ih => simp only [StrLaws.glueL, List.length_append, List.length_cons]; omega
          have hyl := hgl yr
          have hlenq := congrArg List.length eq4
          simp only [List.length_append] at hlenq
          refine ⟨_, rfl, t4, _, _, _, rfl, rfl, sqt et4, atI_nat (j := 0) rfl, _, rfl, rfl, _, rfl, ?_⟩
          by_cases hkk : kindF g' = k
          · rw [show decide (V.str (kindF g') = V.str k) = true by rw [hkk]; simp]
            obtain ⟨n2, g2, rfl, ok2, hn2⟩ := kind_q ok4 hk' hkk
            have ht2 : Df.ht g2 < Df.ht (.q k n2 g2) := by simp only [Df.ht]; omega
            refine iteT ⟨fun σ' H3 => ∃ (v' : V) (g' : Df.Fm) (yr : List Str), Df.ht g' < Df.ht (.q k n2 g2) ∧ σ' = [some (.ref t), some (.bl b), some (.str k), some (.ref l), some v', none, none] ∧ Same H2 H3 ∧ H3 l = some (.lst ((n :: yr).map V.str)) ∧ Dt N H3 v' (fmD g') ∧ OkX g' ∧ Df.ht g' < d ∧ Df.csS n ++ StrLaws.glueL [32] yr ++ Df.qC k g' = Df.csS n ++ Df.qC k g, ?_, ?_⟩
            · rintro σ' H3 ⟨v', g', yr, lt, rfl, a1, a2, a3, a4, a5, a6⟩
              exact ⟨Df.ht g', lt, v', g', yr, rfl, rfl, a1, a2, a3, a4, a5, a6⟩
            · cases hd4 with
              | cons h1 hd4 => cases hd4 with
                | cons h2' hd4 =>
                  cases hd4
                  cases h1
                  refine ⟨_, rfl, .inl ⟨rfl, _, sq hl4⟩, _, rfl, t4, _, _, _, rfl, rfl, sqt et4, atI_nat (j := 1) rfl, l, _, .str n2, rfl, rfl, hl4, szlt (by rw [List.length_map, List.length_cons]; omega), ?_⟩
                  have s5 : Same H2 (upd H' l (.lst ((n :: yr).map V.str ++ [V.str n2]))) := same_mut s4 nl
                  have hl5 : (upd H' l (.lst ((n :: yr).map V.str ++ [V.str n2]))) l = some (.lst ((n :: yr).map V.str ++ [V.str n2])) := upd_same
                  have tn : ∀ b xs, N b → H' b = some (.tup xs) → (upd H' l (.lst ((n :: yr).map V.str ++ [V.str n2]))) b = some (.tup xs) := fun b xs _ e => by
                    rw [upd_ne fun z => by rw [z, hl4] at e; cases e]
                    exact e
                  have et5 : (upd H' l (.lst ((n :: yr).map V.str ++ [V.str n2]))) t4 = _ := tn _ _ n4 et4
                  refine ⟨_, rfl, t4, _, _, _, rfl, rfl, sqt et5, atI_nat (j := 2) rfl, _, g2, yr ++ [n2], ht2, rfl, s5, by rw [hl5]; simp, fm_to tn g2 h2', ok2, by omega, ?_⟩
                  rw [glue_app, ← eq4]
                  have : Df.qC k (.q k n2 g2) = 32 :: Df.csS n2 ++ Df.qC k g2 := by simp [Df.qC]
                  rw [this]
                  simp [StrLaws.glueL, Df.csS]
          · rw [show decide (V.str (kindF g') = V.str k) = false by simp [hkk]]
            have eQ := qC_body hkk
            rw [eQ] at hlenq eq4
            simp only [List.length_cons] at hlenq
            have hp2 := par_len g'
            have hsum := sum_glue yr
            have hnl : n.length = (Df.csS n).length := csx_len n
            have hkl3 : k.length ≤ 10 := hkl
            have hjl : (Txt.join " " (n :: yr)).length ≤ 100000 := sml (by rw [join_cs, List.length_append]; change (Df.csS n).length + (StrLaws.glueL [32] yr).length ≤ _; omega)
            refine iteF ⟨_, rfl, .inl ⟨_, rfl, szl (by change k.length ≤ _; omega), _, rfl, szl (by rw [app_len, len_empty]; change 0 + k.length ≤ _; omega), _, rfl, szl (by rw [app_len, app_len, len_empty, len_bl]; change 0 + k.length + 1 ≤ _; omega), ?_⟩⟩
            refine ⟨tyStr _ _, _, rfl, " ", l, n :: yr, rfl, rfl, .inl (sq hl4), by rw [List.map_cons, List.sum_cons, List.length_cons, len_bl]; omega, .inl ⟨_, rfl, szl (by omega), _, rfl, szl (by rw [app_len, app_len, app_len, len_empty, len_bl]; change 0 + k.length + 1 + (Txt.join " " (n :: yr)).length ≤ _; omega), _, rfl, szl (by rw [app_len, app_len, app_len, app_len, len_empty, len_bl]; change 0 + k.length + 1 + (Txt.join " " (n :: yr)).length + 2 ≤ _; omega), ?_⟩⟩
            refine ⟨_, rfl, N, _, g', false, rfl, hv4, ⟨_, ok4⟩, ht4, by omega, fun H5 y s5 hy => ?_⟩
            have ly : y.length ≤ 100000 := sml (by rw [hy]; omega)
            refine .inl ⟨_, rfl, szl (by omega), _, rfl, szl (by rw [app_len, app_len, app_len, app_len, app_len, len_empty, len_bl]; change 0 + k.length + 1 + (Txt.join " " (n :: yr)).length + 2 + y.length ≤ _; omega), ?_⟩
            have hcs : csx (Str.empty ++ k ++ " " ++ Txt.join " " (n :: yr) ++ ": " ++ y) = Df.fmC false (.q k n g) := by
              rw [app_cs, app_cs, app_cs, app_cs, app_cs, join_cs, hy, eF]
              show [] ++ Df.csS k ++ [32] ++ (Df.csS n ++ StrLaws.glueL [32] yr) ++ [58, 32] ++ Df.fmC false g' = Df.csS k ++ (32 :: Df.csS n) ++ Df.qC k g
              have := eq4
              simp only [List.append_assoc, List.nil_append, List.cons_append, List.append_cancel_left_eq] at this ⊢
              rw [this]
            have hyl2 : (Str.empty ++ k ++ " " ++ Txt.join " " (n :: yr) ++ ": " ++ y).length ≤ 100000 := sml (by rw [hcs, eF]; simp only [List.length_append, List.length_cons]; omega)
            have sH : Same H H5 := s2.trans (s4.trans s5)
            refine ⟨_, rfl, _, rfl, ?_⟩
            cases b with
            | false => exact iteF ⟨_, rfl, hk H5 _ sH hcs⟩
            | true =>
              refine iteT ⟨_, rfl, szl (by rw [app_len, len_empty]; change 0 + 1 ≤ _; decide), _, rfl, .inl ⟨_, rfl, szl (by omega), _, rfl, szl (by rw [app_len, app_len, len_empty]; change 0 + 1 + (Str.empty ++ k ++ " " ++ Txt.join " " (n :: yr) ++ ": " ++ y).length ≤ _; omega), _, rfl, szl (by rw [app_len, app_len, app_len, len_empty]; change 0 + 1 + (Str.empty ++ k ++ " " ++ Txt.join " " (n :: yr) ++ ": " ++ y).length + 1 ≤ _; omega), ?_⟩⟩
              refine hk H5 _ sH ?_
              rw [app_cs, app_cs, app_cs, hcs, eC]
              simp [csx]
              rfl
    | @row _ k fs hk' hl hs =>
      have e0 : decide (V.str (kindF (.row k fs)) = V.str "compare") = false := by
        show decide (V.str k = V.str "compare") = false
        rcases hk' with rfl | rfl <;> decide +kernel
      rw [e0]
      have e1 : decide (V.str (kindF (.row k fs)) = V.str "not") = false := by
        show decide (V.str k = V.str "not") = false
        rcases hk' with rfl | rfl <;> decide +kernel
      refine iteF ⟨_, rfl, rfl, _, rfl, ?_⟩
      rw [e1]
      refine iteF ⟨_, rfl, by show 2 ≤ sizeLine; decide, fun t2 nt2 => ⟨t2, _, rfl, .inr (sqt upd_same), rfl, rfl, _, rfl, ?_⟩⟩
      have s2 := same_upd nt2 (o := .tup [V.str "all", V.str "some"])
      have et2 := s2 _ _ et
      have hd2 : DtAll N (upd H t2 (.tup [V.str "all", V.str "some"])) xs (restF (.row k fs)) := hd.mono s2
      generalize upd H t2 (.tup [V.str "all", V.str "some"]) = H2 at s2 et2 hd2 ⊢
      rw [show inV (V.str (kindF (.row k fs))) [V.str "all", V.str "some"] = [("all" : Str), "some"].contains k from inV_strs k [("all" : Str), "some"]]
      rw [show [("all" : Str), "some"].contains k = false by rcases hk' with rfl | rfl <;> decide +kernel]
      have hkl : k.length ≤ 10 := hkl
      obtain ⟨vp, rfl, hvp⟩ : ∃ vp, xs = [vp] ∧ Dt N H2 vp (.tuple (fmDs fs)) := by
        cases hd2 with
        | cons h1 hd2 =>
          cases hd2
          exact ⟨_, rfl, h1⟩
      obtain ⟨tp, ps, rfl, np, lp, ep, hps⟩ := Dt.tup_ hvp
      refine iteF ⟨_, rfl, szl (by rw [app_len, len_empty, len_bl]; decide), _, rfl, .inl ⟨_, rfl, szl (by change k.length ≤ _; omega), _, rfl, szl (by rw [app_len, app_len, len_empty, len_bl]; change 0 + 1 + k.length ≤ _; omega), _, rfl, szl (by rw [app_len, app_len, app_len, len_empty, len_bl]; change 0 + 1 + k.length + 1 ≤ _; omega), ?_⟩⟩
      refine ⟨tyStr _ _, _, rfl, t, _, _, _, rfl, rfl, sqt et2, atI_nat (j := 1) rfl, tp, rfl, ⟨_, sqt ep⟩, fun D hD => ?_⟩
      have hpl := hps.len
      rw [fmDs_map, List.length_map] at hpl
      have hpn : fs.length ≤ 1000 := by
        have := lp
        rw [fmDs_map, List.length_map] at this
        exact this
      have eC : Df.fmC true (.row k fs) = 40 :: (Df.sepC k (Df.fmsC fs) ++ [41]) := by simp [Df.fmC]
      have eF : Df.fmC false (.row k fs) = Df.sepC k (Df.fmsC fs) := by simp [Df.fmC]
      rw [eC] at hlen
      simp only [List.length_cons, List.length_append, List.length_nil] at hlen
      refine lc_it (walk_tup (K := K) (a := tp) (xs := ps)) (fun j H' => Same H2 H' ∧ ∃ yr : List Str, H' D = some (.lst (yr.map V.str)) ∧ yr.map csx = Df.fmsC (fs.take j)) ⟨same_upd hD, [], upd_same, by simp [Df.fmsC]⟩ (fun j H' _ ⟨s3, _⟩ => sqt (s3 _ _ ep)) ?_ ?_
      · rintro j y H8 H' hj ⟨s4, yr, dD, hyr⟩ ⟨rfl, ey⟩
        rw [hpl] at hj
        obtain ⟨v, hv, hvd⟩ := hps.get (i := j) (d := fmD fs[j]) (by rw [fmDs_map, List.getElem?_map, List.getElem?_eq_getElem hj]; rfl)
        rw [hv] at ey
        cases ey
        have hm := List.getElem_mem hj
        have hpt := part_len (k := k) hm
        have hyl : yr.length ≤ 1000 := by
          have := congrArg List.length hyr
          rw [List.length_map, fmsC_map, List.length_map, List.length_take] at this
          omega
        refine ⟨rfl, ?_⟩
        refine ⟨_, rfl, N, _, fs[j], true, rfl, hvd.mono s4, ⟨_, hs _ hm⟩, ?_, by omega, fun H5 y s5 hy => ?_⟩
        · have := Df.ht_le hm
          simp only [Df.ht] at hlt
          omega
        · refine ⟨_, s5 _ _ dD, szlt (by rw [List.length_map]; omega), same_mut (s4.trans s5) hD, yr ++ [y], by rw [upd_same]; simp, ?_⟩
          rw [List.map_append, hyr, fmsC_map, fmsC_map, ← List.take_append_getElem hj, List.map_append]
          simp [hy]
      · rintro H5 ⟨s5, yr, dD, hyr⟩
        rw [hpl, List.take_length] at hyr
        have hyl : yr.length = fs.length := by
          have := congrArg List.length hyr
          rw [List.length_map, fmsC_map, List.length_map] at this
          exact this
        obtain ⟨p, r, rfl⟩ : ∃ p r, yr = p :: r := by
          cases yr with
          | nil => rw [← hyl] at hl; simp at hl
          | cons p r => exact ⟨p, r, rfl⟩
        have hz : csx (Str.empty ++ " " ++ k ++ " ") = 32 :: Df.csS k ++ [32] := by
          rw [app_cs, app_cs, app_cs]
          rfl
        have hzl : (csx (Str.empty ++ " " ++ k ++ " ")).length = (Str.empty ++ " " ++ k ++ " ").length := (csx_len _).symm
        have hzn : (csx (Str.empty ++ " " ++ k ++ " ")).length = k.length + 2 := by
          rw [hz]
          simp only [List.length_cons, List.length_append, List.length_nil]
          have : k.length = (Df.csS k).length := csx_len k
          omega
        have hj : csx (Txt.join (Str.empty ++ " " ++ k ++ " ") (p :: r)) = Df.fmC false (.row k fs) := by
          rw [join_cs, glue_sepC hz, hyr, eF]
        have hsum := sum_glue2 hzl (p :: r)
        have hgl : (StrLaws.glueL (csx (Str.empty ++ " " ++ k ++ " ")) (p :: r)).length = (csx (Str.empty ++ " " ++ k ++ " ")).length + (Df.sepC k (Df.fmsC fs)).length := by
          rw [← hyr, ← glue_sepC hz p r]
          simp only [StrLaws.glueL, List.length_append]
          try rfl
        have hjl : (Txt.join (Str.empty ++ " " ++ k ++ " ") (p :: r)).length ≤ 100000 := sml (by rw [hj, eF]; omega)
        have sH : Same H H5 := s2.trans s5
        refine ⟨_, D, p :: r, rfl, rfl, .inl (sq dD), ?_, ?_⟩
        · change (List.map (·.length) (p :: r)).sum + (p :: r).length * (Str.empty ++ " " ++ k ++ " ").length ≤ _
          rw [hsum, hgl]
          omega
        change gName 5 (V.str (Txt.join (Str.empty ++ " " ++ k ++ " ") (p :: r))) _ _ _
        generalize Txt.join (Str.empty ++ " " ++ k ++ " ") (p :: r) = z at hj hjl ⊢
        refine ⟨_, rfl, _, rfl, ?_⟩
        cases b with
        | false => exact iteF ⟨_, rfl, hk H5 _ sH hj⟩
        | true =>
          refine iteT ⟨_, rfl, szl (by rw [app_len, len_empty]; change 0 + 1 ≤ _; decide), _, rfl, .inl ⟨_, rfl, szl (by omega), _, rfl, szl (by rw [app_len, app_len, len_empty]; change 0 + 1 + z.length ≤ _; omega), _, rfl, szl (by rw [app_len, app_len, app_len, len_empty]; change 0 + 1 + z.length + 1 ≤ _; omega), ?_⟩⟩
          refine hk H5 _ sH ?_
          rw [app_cs, app_cs, app_cs, hj, eC, eF]
          simp [csx]
          rfl
end
end K1

namespace K1
open PySem PySem.Spec PyProof.Rows L2 Ls
/-! ### the law's own writing -/
section
variable {P : Program} {w : World} {K : PySem.W.Frag} {mg : Str → Option Value} {base : Heap} {f W Pt C CE : Addr} {fd : FuncData} {k : Nat}
theorem sc_u_law_text_of : FnScope ["atom", "name", "shift"] ["atom"] (defScope s_u_law_text_of) := ⟨rfl, rfl, rfl, by decide +kernel, rfl, by decide +kernel, by decide +kernel⟩
theorem ok_law_text_of (F : FnP K "_law_text_of" s_u_law_text_of [] f fd) (G : Facts mg) : FnOk P w K mg base CX0 1 f fd ["atom"] spWAtom := by
  refine F.ok sc_u_law_text_of (fun vs H Q E h => ?_) (fun cdv A outer s H vs Q E hr h => ?_)
  · obtain ⟨N, v, a, rfl, _⟩ := h
    rfl
  · obtain ⟨N, v, ⟨x, i⟩, rfl, hd, ha, hk⟩ := h
    have hu := hu_of hr
    refine ⟨_, PSs.nox (pss_cons (ps_asg (pv 0) (kpg_tup K rfl (pgs_cons (pg_name (i := 1) sc_u_law_text_of.nd rfl (by first | exact .inl rfl | exact .inr rfl)) (pgs_cons (pg_name (i := 2) sc_u_law_text_of.nd rfl (by first | exact .inl rfl | exact .inr rfl)) pgs_nil))))
      (pss_cons (ps_if (pt_cmpR op_eq (pv 1) pe_str (nomark _)) (pss_one (ps_ret (pe_callTy call_str_int (by rfl) G.str_ (by decide +kernel) (pa_cons (pv 2) pa_nil)))) pss_nil)
      (pss_cons (ps_if (pt_cmpR op_eq (pv 2) pe_int (nomark _)) (pss_one (ps_ret (pv 1))) pss_nil)
      (pss_one (ps_ret (pe_op op_add_str (pe_op op_add_str (pv 1) (pe_ifExp (pt_cmpR op_gt (pv 2) pe_int (nomark _)) pe_str pe_str)) (pe_callTy call_str_int (by rfl) G.str_ (by decide +kernel) (pa_cons (pe_callB call_abs (by rfl) G.abs_ (by decide +kernel) (pa_cons (pv 2) pa_nil)) pa_nil)))))))), ?_⟩
    obtain ⟨t, xs, rfl, nt, lt, et, hd⟩ := Dt.tup_ hd
    cases hd with
    | cons h1 hd => cases hd with
      | cons h2 hd =>
        cases hd
        cases h1 with
        | str hx =>
          cases h2 with
          | int =>
            refine ⟨_, rfl, t, _, rfl, sqt et, rfl, ?_⟩
            refine ⟨_, _, rfl, _, _, rfl, rfl, _, rfl, rfl, _, rfl, ?_⟩
            have hi : i.natAbs ≤ 9 := ha.i
            have hlog : i.natAbs.log2 < 1920 := by
              have : ∀ n ≤ 9, Nat.log2 n < 1920 := by decide +kernel
              exact this _ hi
            have hlog2 : (0 - i).natAbs.log2 < 1920 := by rw [show (0 - i).natAbs = i.natAbs by omega]; exact hlog
            have hi1 : 0 ≤ i → csx (toString i) = Df.csS (Df.numW i.natAbs) := fun h => by
              have := (int_text i.natAbs hi).1
              rw [show ((i.natAbs : Nat) : Int) = i by omega] at this
              exact this
            have hi2 : i < 0 → csx (toString i) = 45 :: Df.csS (Df.numW i.natAbs) := fun h => by
              have := (int_text i.natAbs hi).2
              rw [show (-((i.natAbs : Nat) : Int)) = i by omega, if_pos (by omega)] at this
              exact this
            have hi3 : i < 0 → csx (toString (0 - i)) = Df.csS (Df.numW i.natAbs) := fun h => by
              have := (int_text i.natAbs hi).1
              rw [show ((i.natAbs : Nat) : Int) = 0 - i by omega] at this
              exact this
            have hsmall : ∀ n ≤ 9, (Df.csS (Df.numW n)).length ≤ 10 := by decide +kernel
            have hsm := hsmall _ hi
            by_cases hx0 : x = "0"
            · rw [show decide (V.str x = V.str "0") = true by simp [hx0]]
              refine iteT ⟨_, rfl, _, rfl, hlog, hk _ ?_⟩
              subst hx0
              by_cases hneg : i < 0
              · rw [hi2 hneg]; simp [Df.atomC, hneg]
              · rw [hi1 (by omega)]; simp [Df.atomC, hneg]
            · rw [show decide (V.str x = V.str "0") = false by simp [hx0]]
              refine iteF ⟨_, rfl, rfl, _, rfl, ?_⟩
              by_cases hz : i = 0
              · rw [show decide (V.int i = V.int 0) = true by simp [hz]]
                exact iteT ⟨_, rfl, hk _ (by simp [Df.atomC, hx0, hz]; rfl)⟩
              · rw [show decide (V.int i = V.int 0) = false by simp [hz]]
                have hxl : x.length ≤ 1000 := hx.1
                have hab : (if i < 0 then -i else i) = ((i.natAbs : Nat) : Int) := by split <;> omega
                have hi4 : csx (toString (if i < 0 then -i else i) : Str) = Df.csS (Df.numW i.natAbs) := by
                  rw [hab]
                  exact (int_text i.natAbs hi).1
                have hl4 : (toString (if i < 0 then -i else i) : Str).length ≤ 10 := by rw [csx_len, hi4]; exact hsm
                have hg4 : (if i < 0 then -i else i).natAbs.log2 < 1920 := by rw [hab]; exact hlog
                refine iteF ⟨_, rfl, _, rfl, _, _, rfl, rfl, _, rfl, ?_⟩
                by_cases hp : 0 < i
                · rw [show decide ((0 : Int) < i) = true from decide_eq_true hp]
                  refine iteT ⟨_, _, rfl, rfl, szl (by rw [show (" + " : Str).length = 3 from rfl]; change x.length + 3 ≤ _; omega), _, rfl, _, rfl, _, rfl, hg4, _, _, rfl, rfl, szl (by rw [app_len, show (" + " : Str).length = 3 from rfl]; change x.length + 3 + (toString (if i < 0 then -i else i) : Str).length ≤ 1000000; omega), ?_⟩
                  refine hk _ ?_
                  rw [app_cs, app_cs]
                  refine (congrArg _ hi4).trans ?_
                  simp only [Df.atomC, if_neg hx0, if_neg hz, if_pos hp]
                  rfl
                · rw [show decide ((0 : Int) < i) = false from decide_eq_false hp]
                  refine iteF ⟨_, _, rfl, rfl, szl (by rw [show (" - " : Str).length = 3 from rfl]; change x.length + 3 ≤ _; omega), _, rfl, _, rfl, _, rfl, hg4, _, _, rfl, rfl, szl (by rw [app_len, show (" - " : Str).length = 3 from rfl]; change x.length + 3 + (toString (if i < 0 then -i else i) : Str).length ≤ 1000000; omega), ?_⟩
                  refine hk _ ?_
                  rw [app_cs, app_cs]
                  refine (congrArg _ hi4).trans ?_
                  simp only [Df.atomC, if_neg hx0, if_neg hz, if_neg hp]
                  rfl
end
end K1

namespace K1
open PySem PySem.Spec PyProof.Rows L2 Ls
def spLText (d : Nat) : Sp := fun vs H Q _ => ∃ (N : Addr → Prop) (v : V) (f : Df.Fm) (b : Bool), vs = [v, .bl b] ∧ Dt N H v (fmD f) ∧ OkX f ∧ Df.ht f < d ∧ Df.ht f ≤ 6 ∧ (Df.fmC true f).length ≤ 100000 ∧ ∀ H' y, Same H H' → csx y = Df.fmC b f → Q (.str y) H'
section
variable {P : Program} {w : World} {K : PySem.W.Frag} {mg : Str → Option Value} {base : Heap} {f W Pt C CE : Addr} {fd : FuncData} {k : Nat}
theorem sc_u_law_text : FnScope ["tree", "inside", "kind", "names", "body", "step", "found", "part"] ["tree", "inside"] (defScope s_u_law_text) := ⟨rfl, rfl, rfl, by decide +kernel, rfl, by decide +kernel, by decide +kernel⟩
theorem ok_law_text0 (F : FnP K "_law_text" s_u_law_text [] f fd) {n : Nat} : FnOk P w K mg base CX0 (n + 1) f fd ["tree", "inside"] (spLText 0) := by
  refine F.ok sc_u_law_text (fun vs H Q E h => ?_) (fun cdv A outer s H vs Q E hr h => ?_)
  · obtain ⟨N, v, f, b, rfl, _⟩ := h
    rfl
  · obtain ⟨N, v, f, b, rfl, hd, hf, hlt, _⟩ := h
    exact absurd hlt (Nat.not_lt_zero _)
theorem ok_law_textS (d : Nat) (F : FnP K "_law_text" s_u_law_text [] f fd) (G : Facts mg) (C_u_law_text_of : Cal P w K mg base 1 "_law_text_of" spWAtom []) (C_u_law_text : Cal P w K mg base (d + 2) "_law_text" (spLText d) []) :
    FnOk P w K mg base CX0 (d + 2 + 1) f fd ["tree", "inside"] (spLText (d + 1)) := by
  refine F.ok sc_u_law_text (fun vs H Q E h => ?_) (fun cdv A outer s H vs Q E hr h => ?_)
  · obtain ⟨N, v, f, b, rfl, _⟩ := h
    rfl
  · obtain ⟨N, v, fm, b, rfl, hd, ⟨ar, hf⟩, hlt, h6, hlen, hk⟩ := h
    have hu := hu_of hr
    refine ⟨_, PSs.nox (pss_cons (ps_set (i := 2) sc_u_law_text.nd rfl (.inl rfl) (pe_ix (kIxT K) (pv 0) pe_int (fun _ _ => rfl)))
      (pss_cons (ps_if (pt_cmpR op_eq (pv 2) pe_str (nomark _)) (pss_one (ps_ret (pe_op op_add_str (pe_op op_add_str (pe_op op_add_str (pe_op op_add_str (pe_c C_u_law_text_of hr (by omega) (by rfl) (pa_cons (pe_ix (kIxT K) (pv 0) pe_int (fun _ _ => rfl)) pa_nil)) pe_str) (pe_ix (kIxT K) (pv 0) pe_int (fun _ _ => rfl))) pe_str) (pe_c C_u_law_text_of hr (by omega) (by rfl) (pa_cons (pe_ix (kIxT K) (pv 0) pe_int (fun _ _ => rfl)) pa_nil))))) pss_nil)
      (pss_cons (ps_if (pt_cmpR op_eq (pv 2) pe_str (nomark _)) (pss_one (ps_ret (pe_op op_add_str pe_str (pe_c C_u_law_text hr (by omega) (by rfl) (pa_cons (pe_ix (kIxT K) (pv 0) pe_int (fun _ _ => rfl)) (pa_cons pe_bl pa_nil)))))) pss_nil)
      (pss_cons (ps_if (pt_cmpR (kIn K) (pv 2) (pe_tup (pa_cons pe_str (pa_cons pe_str pa_nil))) (by rfl)) (pss_cons (ps_par (i := 3) (j := 4) (by rfl) sc_u_law_text.nd rfl rfl (by decide) rfl rfl (pa_cons (pe_op op_add_str (pe_op op_add_str (pv 2) pe_str) (pe_ix (kIxT K) (pv 0) pe_int (fun _ _ => rfl))) (pa_cons (pe_ix (kIxT K) (pv 0) pe_int (fun _ _ => rfl)) pa_nil)) (by rfl))
        (pss_cons (ps_for PassesOwn.never rfl (pi_range1 (by rfl) G.range_ (pa_cons pe_int pa_nil)) (pg_name (i := 5) sc_u_law_text.nd rfl (by first | exact .inl rfl | exact .inr rfl))
          (pss_one (ps_if (pt_cmpR op_eq (pe_ix (kIxT K) (pv 4) pe_int (fun _ _ => rfl)) (pv 2) (nomark _)) (pss_one (ps_par (i := 3) (j := 4) (by rfl) sc_u_law_text.nd rfl rfl (by decide) rfl rfl (pa_cons (pe_op op_add_str (pe_op op_add_str (pv 3) pe_str) (pe_ix (kIxT K) (pv 4) pe_int (fun _ _ => rfl))) (pa_cons (pe_ix (kIxT K) (pv 4) pe_int (fun _ _ => rfl)) pa_nil)) (by rfl))) pss_nil)))
        (pss_one (ps_set (i := 6) sc_u_law_text.nd rfl (.inl rfl) (pe_op op_add_str (pe_op op_add_str (pv 3) pe_str) (pe_c C_u_law_text hr (by omega) (by rfl) (pa_cons (pv 4) (pa_cons pe_bl pa_nil)))))))) (pss_one (ps_set (i := 6) sc_u_law_text.nd rfl (.inl rfl) (pe_bm PySem.F.plainAttrs_str PySem.F.slot_str_join PySem.F.type_str_join mt_join (pe_op op_add_str (pe_op op_add_str pe_str (pv 2)) pe_str) (pa_cons (pe_lc (own := [("part", 7)]) (g := gName 7) (tt := tYes) rfl sc_u_law_text.nd  (kpi_tup K (pe_ix (kIxT K) (pv 0) pe_int (fun _ _ => rfl))) (blkOk_by (by kernel_rfl)) (fun _ _ _ _ _ => (pg_name (i := 7) sc_u_law_text.nd rfl (by first | exact .inl rfl | exact .inr rfl))) (fun _ _ _ _ _ => pts_nil) (fun _ _ _ _ _ => (pe_c C_u_law_text hr (by omega) (by rfl) (pa_cons (pv 7) (pa_cons pe_bl pa_nil))))) pa_nil)))))
      (pss_one (ps_ret (pe_ifExp (pt_val (pv 1)) (pe_op op_add_str (pe_op op_add_str pe_str (pv 6)) pe_str) (pv 6)))))))), ?_⟩
    have hd0 := hd
    rw [fmD_eq] at hd
    obtain ⟨t, xs, rfl, nt, lt, et, hd⟩ := Dt.tup_ hd
    obtain ⟨xs, rfl⟩ : ∃ xs', xs = .str (kindF fm) :: xs' := by
      cases hd with
      | cons h1 hd =>
        cases h1
        exact ⟨_, rfl⟩
    have hd : DtAll N H xs (restF fm) := by
      cases hd with
      | cons h1 hd => exact hd
    have hkl := kinds_ok hf
    refine ⟨_, rfl, t, _, _, _, rfl, rfl, sqt et, atI_nat (j := 0) rfl, ?_⟩
    refine ⟨_, rfl, rfl, _, rfl, ?_⟩
    cases hf with
    | @cmp _ op l r ho hl hr' =>
      have e0 : decide (V.str (kindF (.cmp op l r)) = V.str "compare") = true := decide_eq_true rfl
      rw [e0]
      cases hd with
      | cons h1 hd => cases hd with
        | cons h2 hd => cases hd with
          | cons h3 hd =>
            cases hd
            cases h1
            have ol := (op_ok ho).1
            have eC : Df.fmC true (.cmp op l r) = Df.atomC l ++ (32 :: Df.csS op ++ [32]) ++ Df.atomC r := by simp [Df.fmC]
            have eB : Df.fmC b (.cmp op l r) = Df.atomC l ++ (32 :: Df.csS op ++ [32]) ++ Df.atomC r := by simp [Df.fmC]
            rw [eC] at hlen
            simp only [List.length_append] at hlen
            refine iteT ⟨_, rfl, t, _, _, _, rfl, rfl, sqt et, atI_nat (j := 2) rfl, N, _, l, rfl, h2, hl, fun y1 hy1 => ?_⟩
            have l1 : y1.length ≤ 100000 := sml (by rw [hy1]; omega)
            refine ⟨_, _, rfl, rfl, szl (by rw [len_bl]; omega), _, rfl, t, _, _, _, rfl, rfl, sqt et, atI_nat (j := 1) rfl, _, _, rfl, rfl, szl (by rw [app_len, len_bl]; change y1.length + 1 + op.length ≤ _; omega), _, _, rfl, rfl, szl (by rw [app_len, app_len, len_bl]; change y1.length + 1 + op.length + 1 ≤ _; omega), ?_⟩
            refine ⟨_, rfl, t, _, _, _, rfl, rfl, sqt et, atI_nat (j := 3) rfl, N, _, r, rfl, h3, hr', fun y2 hy2 => ?_⟩
            have l2 : y2.length ≤ 100000 := sml (by rw [hy2]; omega)
            refine ⟨_, _, rfl, rfl, szl (by rw [app_len, app_len, app_len, len_bl]; change y1.length + 1 + op.length + 1 + y2.length ≤ _; omega), ?_⟩
            refine hk H _ (Same.refl H) ?_
            rw [app_cs, app_cs, app_cs, app_cs, hy1, hy2, eB]
            show Df.atomC l ++ [32] ++ Df.csS op ++ [32] ++ Df.atomC r = _
            simp
    | @no _ g hg =>
      have e0 : decide (V.str (kindF (.no g)) = V.str "compare") = false := by
        show decide (V.str "not" = V.str "compare") = false
        decide +kernel
      rw [e0]
      have e1 : decide (V.str (kindF (.no g)) = V.str "not") = true := decide_eq_true rfl
      cases hd with
      | cons h1 hd =>
        cases hd
        refine iteF ⟨_, rfl, rfl, _, rfl, ?_⟩
        rw [e1]
        have eC : ∀ b, Df.fmC b (.no g) = Df.csS "not " ++ Df.fmC true g := fun b => by simp [Df.fmC]
        rw [eC] at hlen
        rw [List.length_append] at hlen
        refine iteT ⟨_, rfl, t, _, _, _, rfl, rfl, sqt et, atI_nat (j := 1) rfl, N, _, g, true, rfl, h1, ⟨_, hg⟩, by simp only [Df.ht] at hlt; omega, by simp only [Df.ht] at h6; omega, by omega, fun H2 y s2 hy => ?_⟩
        have l1 : y.length ≤ 100000 := sml (by rw [hy]; omega)
        refine ⟨_, _, rfl, rfl, szl (by change 4 + y.length ≤ _; omega), ?_⟩
        refine hk H2 _ s2 ?_
        rw [app_cs, hy, eC]
        rfl
    | @q _ k n g hk' hn hfr hg =>
      have e0 : decide (V.str (kindF (.q k n g)) = V.str "compare") = false := by
        show decide (V.str k = V.str "compare") = false
        rcases hk' with rfl | rfl <;> decide +kernel
      rw [e0]
      have e1 : decide (V.str (kindF (.q k n g)) = V.str "not") = false := by
        show decide (V.str k = V.str "not") = false
        rcases hk' with rfl | rfl <;> decide +kernel
      refine iteF ⟨_, rfl, rfl, _, rfl, ?_⟩
      rw [e1]
      refine iteF ⟨_, rfl, by show 2 ≤ sizeLine; decide, fun t2 nt2 => ⟨t2, _, rfl, .inr (sqt upd_same), rfl, rfl, _, rfl, ?_⟩⟩
      have s2 := same_upd nt2 (o := .tup [V.str "all", V.str "some"])
      have et2 := s2 _ _ et
      have hd2 : DtAll N (upd H t2 (.tup [V.str "all", V.str "some"])) xs (restF (.q k n g)) := hd.mono s2
      generalize upd H t2 (.tup [V.str "all", V.str "some"]) = H2 at s2 et2 hd2 ⊢
      rw [show inV (V.str (kindF (.q k n g))) [V.str "all", V.str "some"] = [("all" : Str), "some"].contains k from inV_strs k [("all" : Str), "some"]]
      rw [show [("all" : Str), "some"].contains k = true by rcases hk' with rfl | rfl <;> decide +kernel]
      have hkl3 : k.length ≤ 10 := hkl
      cases hd2 with
      | cons h1 hd2 => cases hd2 with
        | cons h2 hd2 =>
          cases hd2
          cases h1
          have eC : Df.fmC true (.q k n g) = 40 :: (Df.fmC false (.q k n g) ++ [41]) := by simp [Df.fmC]
          have eF : Df.fmC false (.q k n g) = Df.csS k ++ (32 :: Df.csS n) ++ Df.qC k g := by simp [Df.fmC]
          have hlen2 := hlen
          rw [eC, eF] at hlen
          simp only [List.length_cons, List.length_append, List.length_nil] at hlen
          have hnl : n.length = (Df.csS n).length := csx_len n
          have hkn : k.length = (Df.csS k).length := csx_len k
          refine iteT ⟨_, rfl, _, _, rfl, rfl, szl (by rw [len_bl]; change k.length + 1 ≤ _; omega), _, rfl, t, _, _, _, rfl, rfl, sqt et2, atI_nat (j := 1) rfl, _, _, rfl, rfl, szl (by rw [app_len, len_bl]; change k.length + 1 + n.length ≤ _; omega), _, rfl, t, _, _, _, rfl, rfl, sqt et2, atI_nat (j := 2) rfl, ?_⟩
          refine ⟨_, _, rfl, 6, rfl, by decide, by decide, ?_⟩
          refine for_it (walk_range (lo := 0) (n := (6 : Int).toNat)) (fun j σ H' => ∃ (x5 : Option V) (z : Str) (v' : V) (g' : Df.Fm), σ = [some (.ref t), some (.bl b), some (.str k), some (.str z), some v', x5, none, none] ∧ H' = H2 ∧ Dt N H2 v' (fmD g') ∧ OkX g' ∧ Df.ht g' ≤ Df.ht g ∧ (Df.ht g' + j ≤ Df.ht g ∨ kindF g' ≠ k) ∧ csx z ++ Df.qC k g' = Df.csS k ++ (32 :: Df.csS n) ++ Df.qC k g)
            ⟨none, _, _, g, rfl, rfl, h2, ⟨_, hg⟩, Nat.le_refl _, .inl (Nat.le_refl _), by rw [app_cs, app_cs]; show Df.csS k ++ [32] ++ Df.csS n ++ _ = _; simp⟩ (fun _ _ _ _ _ => True.intro) ?_ ?_
          · rintro j y σ H9 H' hj ⟨x5, z, v', g', rfl, eH, hv4, ⟨ar4, ok4⟩, hle, hor, eq4⟩ ⟨eH', rfl⟩
            obtain rfl : H2 = H9 := eH.symm
            obtain rfl : H2 = H' := eH'.symm
            have hv4' := hv4
            rw [fmD_eq] at hv4'
            obtain ⟨t4, xs4, rfl, n4, len4, et4, hd4⟩ := Dt.tup_ hv4'
            obtain ⟨xs4, rfl⟩ : ∃ xs', xs4 = .str (kindF g') :: xs' := by
              cases hd4 with
              | cons h1 hd =>
                cases h1
                exact ⟨_, rfl⟩
            have hd4 : DtAll N H2 xs4 (restF g') := by
              cases hd4 with
              | cons h1 hd => exact hd
            have hlq := congrArg List.length eq4
            simp only [List.length_append, List.length_cons] at hlq
            have hzl : z.length = (csx z).length := csx_len z
            refine ⟨_, rfl, t4, _, _, _, rfl, rfl, sqt et4, atI_nat (j := 0) rfl, _, rfl, rfl, _, rfl, ?_⟩
            by_cases hkk : kindF g' = k
            · rw [show decide (V.str (kindF g') = V.str k) = true by rw [hkk]; simp]
              obtain ⟨n2, g2, rfl, ok2, hn2⟩ := kind_q ok4 hk' hkk
              have e5 : Df.qC k (.q k n2 g2) = 32 :: Df.csS n2 ++ Df.qC k g2 := by simp [Df.qC]
              cases hd4 with
              | cons h1 hd4 => cases hd4 with
                | cons h2' hd4 =>
                  cases hd4
                  cases h1 with
                  | str hx =>
                    have hx1 := hx.1
                    refine iteT ⟨_, rfl, _, _, rfl, rfl, szl (by rw [len_bl]; omega), _, rfl, t4, _, _, _, rfl, rfl, sqt et4, atI_nat (j := 1) rfl, _, _, rfl, rfl, szl (by rw [app_len, len_bl]; omega), _, rfl, t4, _, _, _, rfl, rfl, sqt et4, atI_nat (j := 2) rfl, ?_⟩
                    refine ⟨_, _, rfl, _, _, _, g2, rfl, rfl, h2', ok2, ?_, ?_, ?_⟩
                    · simp only [Df.ht] at hle; omega
                    · rcases hor with h | h
                      · left; simp only [Df.ht] at h; omega
                      · exact absurd hkk h
                    · rw [app_cs, app_cs, ← eq4, e5]
                      show csx z ++ [32] ++ Df.csS n2 ++ _ = _
                      simp
            · rw [show decide (V.str (kindF g') = V.str k) = false by simp [hkk]]
              exact iteF ⟨_, _, _, g', rfl, rfl, hv4, ⟨_, ok4⟩, hle, .inr hkk, eq4⟩
          · rintro σ H5 ⟨x5, z, v', g', rfl, eH, hv4, ok4, hle, hor, eq4⟩
            obtain rfl : H2 = H5 := eH.symm
            have hkk : kindF g' ≠ k := by
              rcases hor with h | h
              · simp only [Df.ht] at h6
                have : (6 : Int).toNat = 6 := rfl
                omega
              · exact h
            have eQ := qC_body hkk
            rw [eQ] at eq4
            have hlq := congrArg List.length eq4
            simp only [List.length_append, List.length_cons] at hlq
            have hzl : z.length = (csx z).length := csx_len z
            have hp2 := par_len g'
            refine ⟨_, rfl, _, _, rfl, rfl, szl (by change z.length + 2 ≤ _; omega), ?_⟩
            refine ⟨_, rfl, N, _, g', false, rfl, hv4, ok4, by simp only [Df.ht] at hlt; omega, by simp only [Df.ht] at h6; omega, by omega, fun H5 y s5 hy => ?_⟩
            have ly : y.length ≤ 100000 := sml (by rw [hy]; omega)
            have hyl : y.length = (csx y).length := csx_len y
            rw [hy] at hyl
            refine ⟨_, _, rfl, rfl, szl (by rw [app_len]; change z.length + 2 + y.length ≤ _; omega), ?_⟩
            have hcs : csx (z ++ ": " ++ y) = Df.fmC false (.q k n g) := by
              rw [app_cs, app_cs, hy, eF, ← eq4]
              show csx z ++ [58, 32] ++ _ = _
              simp
            have hwl : (z ++ ": " ++ y).length ≤ 100000 := sml (by rw [hcs, eF]; simp only [List.length_append, List.length_cons]; omega)
            have sH : Same H H5 := s2.trans s5
            change gName 6 (V.str (z ++ ": " ++ y)) _ _ _
            generalize z ++ ": " ++ y = u at hcs hwl ⊢
            refine ⟨_, rfl, _, rfl, ?_⟩
            cases b with
            | false => exact iteF ⟨_, rfl, hk H5 _ sH hcs⟩
            | true =>
              refine iteT ⟨_, rfl, _, _, rfl, rfl, szl (by change 1 + u.length ≤ _; omega), _, _, rfl, rfl, szl (by rw [app_len]; change 1 + u.length + 1 ≤ _; omega), ?_⟩
              refine hk H5 _ sH ?_
              rw [app_cs, app_cs, hcs, eC]
              simp [csx]
              rfl
    | @row _ k fs hk' hl hs =>
      have e0 : decide (V.str (kindF (.row k fs)) = V.str "compare") = false := by
        show decide (V.str k = V.str "compare") = false
        rcases hk' with rfl | rfl <;> decide +kernel
      rw [e0]
      have e1 : decide (V.str (kindF (.row k fs)) = V.str "not") = false := by
        show decide (V.str k = V.str "not") = false
        rcases hk' with rfl | rfl <;> decide +kernel
      refine iteF ⟨_, rfl, rfl, _, rfl, ?_⟩
      rw [e1]
      refine iteF ⟨_, rfl, by show 2 ≤ sizeLine; decide, fun t2 nt2 => ⟨t2, _, rfl, .inr (sqt upd_same), rfl, rfl, _, rfl, ?_⟩⟩
      have s2 := same_upd nt2 (o := .tup [V.str "all", V.str "some"])
      have et2 := s2 _ _ et
      have hd2 : DtAll N (upd H t2 (.tup [V.str "all", V.str "some"])) xs (restF (.row k fs)) := hd.mono s2
      generalize upd H t2 (.tup [V.str "all", V.str "some"]) = H2 at s2 et2 hd2 ⊢
      rw [show inV (V.str (kindF (.row k fs))) [V.str "all", V.str "some"] = [("all" : Str), "some"].contains k from inV_strs k [("all" : Str), "some"]]
      rw [show [("all" : Str), "some"].contains k = false by rcases hk' with rfl | rfl <;> decide +kernel]
      have hkl : k.length ≤ 10 := hkl
      obtain ⟨vp, rfl, hvp⟩ : ∃ vp, xs = [vp] ∧ Dt N H2 vp (.tuple (fmDs fs)) := by
        cases hd2 with
        | cons h1 hd2 =>
          cases hd2
          exact ⟨_, rfl, h1⟩
      obtain ⟨tp, ps, rfl, np, lp, ep, hps⟩ := Dt.tup_ hvp
      refine iteF ⟨_, rfl, _, _, rfl, rfl, szl (by rw [len_bl]; change 1 + k.length ≤ _; omega), _, _, rfl, rfl, szl (by rw [app_len, len_bl]; change 1 + k.length + 1 ≤ _; omega), ?_⟩
      refine ⟨tyStr _ _, _, rfl, t, _, _, _, rfl, rfl, sqt et2, atI_nat (j := 1) rfl, tp, rfl, ⟨_, sqt ep⟩, fun D hD => ?_⟩
      have hpl := hps.len
      rw [fmDs_map, List.length_map] at hpl
      have hpn : fs.length ≤ 1000 := by
        have := lp
        rw [fmDs_map, List.length_map] at this
        exact this
      have eC : Df.fmC true (.row k fs) = 40 :: (Df.sepC k (Df.fmsC fs) ++ [41]) := by simp [Df.fmC]
      have eF : Df.fmC false (.row k fs) = Df.sepC k (Df.fmsC fs) := by simp [Df.fmC]
      rw [eC] at hlen
      simp only [List.length_cons, List.length_append, List.length_nil] at hlen
      refine lc_it (walk_tup (K := K) (a := tp) (xs := ps)) (fun j H' => Same H2 H' ∧ ∃ yr : List Str, H' D = some (.lst (yr.map V.str)) ∧ yr.map csx = Df.fmsC (fs.take j)) ⟨same_upd hD, [], upd_same, by simp [Df.fmsC]⟩ (fun j H' _ ⟨s3, _⟩ => sqt (s3 _ _ ep)) ?_ ?_
      · rintro j y H8 H' hj ⟨s4, yr, dD, hyr⟩ ⟨rfl, ey⟩
        rw [hpl] at hj
        obtain ⟨v, hv, hvd⟩ := hps.get (i := j) (d := fmD fs[j]) (by rw [fmDs_map, List.getElem?_map, List.getElem?_eq_getElem hj]; rfl)
        rw [hv] at ey
        cases ey
        have hm := List.getElem_mem hj
        have hpt := part_len (k := k) hm
        have hyl : yr.length ≤ 1000 := by
          have := congrArg List.length hyr
          rw [List.length_map, fmsC_map, List.length_map, List.length_take] at this
          omega
        refine ⟨rfl, ?_⟩
        refine ⟨_, rfl, N, _, fs[j], true, rfl, hvd.mono s4, ⟨_, hs _ hm⟩, ?_, ?_, by omega, fun H5 y s5 hy => ?_⟩
        · have := Df.ht_le hm
          simp only [Df.ht] at hlt
          omega
        · have := Df.ht_le hm
          simp only [Df.ht] at h6
          omega
        · refine ⟨_, s5 _ _ dD, szlt (by rw [List.length_map]; omega), same_mut (s4.trans s5) hD, yr ++ [y], by rw [upd_same]; simp, ?_⟩
          rw [List.map_append, hyr, fmsC_map, fmsC_map, ← List.take_append_getElem hj, List.map_append]
          simp [hy]
      · rintro H5 ⟨s5, yr, dD, hyr⟩
        rw [hpl, List.take_length] at hyr
        have hyl : yr.length = fs.length := by
          have := congrArg List.length hyr
          rw [List.length_map, fmsC_map, List.length_map] at this
          exact this
        obtain ⟨p, r, rfl⟩ : ∃ p r, yr = p :: r := by
          cases yr with
          | nil => rw [← hyl] at hl; simp at hl
          | cons p r => exact ⟨p, r, rfl⟩
        have hz : csx ((" " : Str) ++ k ++ " ") = 32 :: Df.csS k ++ [32] := by
          rw [app_cs, app_cs]
          rfl
        have hzl : (csx ((" " : Str) ++ k ++ " ")).length = ((" " : Str) ++ k ++ " ").length := (csx_len _).symm
        have hzn : (csx ((" " : Str) ++ k ++ " ")).length = k.length + 2 := by
          rw [hz]
          simp only [List.length_cons, List.length_append, List.length_nil]
          have : k.length = (Df.csS k).length := csx_len k
          omega
        have hj : csx (Txt.join ((" " : Str) ++ k ++ " ") (p :: r)) = Df.fmC false (.row k fs) := by
          rw [join_cs, glue_sepC hz, hyr, eF]
        have hsum := sum_glue2 hzl (p :: r)
        have hgl : (StrLaws.glueL (csx ((" " : Str) ++ k ++ " ")) (p :: r)).length = (csx ((" " : Str) ++ k ++ " ")).length + (Df.sepC k (Df.fmsC fs)).length := by
          rw [← hyr, ← glue_sepC hz p r]
          simp only [StrLaws.glueL, List.length_append]
          try rfl
        have hjl : (Txt.join ((" " : Str) ++ k ++ " ") (p :: r)).length ≤ 100000 := sml (by rw [hj, eF]; omega)
        have sH : Same H H5 := s2.trans s5
        refine ⟨_, D, p :: r, rfl, rfl, .inl (sq dD), ?_, ?_⟩
        · change (List.map (·.length) (p :: r)).sum + (p :: r).length * ((" " : Str) ++ k ++ " ").length ≤ _
          rw [hsum, hgl]
          omega
        change gName 6 (V.str (Txt.join ((" " : Str) ++ k ++ " ") (p :: r))) _ _ _
        generalize Txt.join ((" " : Str) ++ k ++ " ") (p :: r) = z at hj hjl ⊢
        refine ⟨_, rfl, _, rfl, ?_⟩
        cases b with
        | false => exact iteF ⟨_, rfl, hk H5 _ sH hj⟩
        | true =>
          refine iteT ⟨_, rfl, _, _, rfl, rfl, szl (by change 1 + z.length ≤ _; omega), _, _, rfl, rfl, szl (by rw [app_len]; change 1 + z.length + 1 ≤ _; omega), ?_⟩
          refine hk H5 _ sH ?_
          rw [app_cs, app_cs, hj, eC, eF]
          simp [csx]
          rfl
end
end K1

namespace Df
open PySem
/-- is a name free below these bound ones? -/
def frB (b : List Str) (x : Str) : Bool := !decide (x = "0") && !b.contains x
mutual
/-- the free names in their order, with repeats -/
def freeL : Fm → List Str → List Str
  | .cmp _ l r, b => [l.1, r.1].filter (frB b)
  | .no f, b => freeL f b
  | .q _ n f, b => freeL f (b ++ [n])
  | .row _ fs, b => freeLs fs b
def freeLs : List Fm → List Str → List Str
  | [], _ => []
  | f :: fs, b => freeL f b ++ freeLs fs b
end
def addD (fo : List Str) (x : Str) : List Str := if fo.contains x then fo else fo ++ [x]
def addAll (fo xs : List Str) : List Str := xs.foldl addD fo
theorem addAll_app (fo xs ys : List Str) : addAll fo (xs ++ ys) = addAll (addAll fo xs) ys := List.foldl_append ..
theorem addAll_len : ∀ (xs fo : List Str), (addAll fo xs).length ≤ fo.length + xs.length
  | [], fo => Nat.le_refl _
  | x :: xs, fo => by
    have := addAll_len xs (addD fo x)
    have h : (addD fo x).length ≤ fo.length + 1 := by
      unfold addD
      split <;> simp
    show (addAll (addD fo x) xs).length ≤ _
    rw [List.length_cons]
    omega
theorem freeLs_app : ∀ (fs gs : List Fm) (b : List Str), freeLs (fs ++ gs) b = freeLs fs b ++ freeLs gs b
  | [], gs, b => by simp [freeLs]
  | f :: fs, gs, b => by simp [freeLs, freeLs_app fs gs b]
theorem freeLs_take (fs : List Fm) (b : List Str) {j : Nat} (h : j < fs.length) : freeLs (fs.take (j + 1)) b = freeLs (fs.take j) b ++ freeL fs[j] b := by
  rw [← List.take_append_getElem h, freeLs_app]
  simp [freeLs]
theorem freeLs_len (fs : List Fm) (b : List Str) (j : Nat) : (freeLs (fs.take j) b).length ≤ (freeLs fs b).length := by
  have := freeLs_app (fs.take j) (fs.drop j) b
  rw [List.take_append_drop] at this
  rw [this, List.length_append]
  omega
end Df
namespace K1
open PySem PySem.Spec PyProof.Rows L2 Ls
theorem flat_strs (ws : List Str) : (ws.map V.str).all flatV = true := by
  rw [List.all_eq_true]
  intro v hv
  obtain ⟨x, _, rfl⟩ := List.mem_map.mp hv
  rfl
/-- the heap as it was, but for one object -/
def Frx (l : Addr) (H H' : Hp) : Prop := ∀ a o, a ≠ l → H a = some o → H' a = some o
theorem Frx.refl (l : Addr) (H : Hp) : Frx l H H := fun _ _ _ e => e
theorem Frx.trans {l : Addr} {H H' H2 : Hp} (h : Frx l H H') (g : Frx l H' H2) : Frx l H H2 := fun a o n e => g a o n (h a o n e)
theorem Frx.same {l : Addr} {H H' : Hp} (h : Same H H') : Frx l H H' := fun a o _ e => h a o e
theorem Frx.upd {l : Addr} {H : Hp} {o : HO} : Frx l H (upd H l o) := fun a o' n e => by rw [upd_ne n]; exact e
theorem Frx.tup {l : Addr} {H H' : Hp} {xs : List V} (h : Frx l H H') (e : H l = some (.lst xs)) {b : Addr} {ys : List V} (eb : H b = some (.tup ys)) : H' b = some (.tup ys) := h b _ (fun z => by subst z; rw [e] at eb; cases eb) eb
def spFree (d : Nat) : Sp := fun vs H Q _ => ∃ (N : Addr → Prop) (v : V) (f : Df.Fm) (bt l : Addr) (b fo : List Str), vs = [v, .ref bt, .ref l] ∧ Dt N H v (fmD f) ∧ OkX f ∧ Df.ht f < d ∧ H bt = some (.tup (b.map V.str)) ∧ H l = some (.lst (fo.map V.str)) ∧ b.length + Df.ht f ≤ 1000 ∧ fo.length + (Df.freeL f b).length ≤ 100000 ∧
  ∀ H', Frx l H H' → H' l = some (.lst ((Df.addAll fo (Df.freeL f b)).map V.str)) → Q .non H'
section
variable {P : Program} {w : World} {K : PySem.W.Frag} {mg : Str → Option Value} {base : Heap} {f W Pt C CE : Addr} {fd : FuncData} {k : Nat}
theorem sc_u_free : FnScope ["formula", "bound", "found", "name", "_", "part"] ["formula", "bound", "found"] (defScope s_u_free) := ⟨rfl, rfl, rfl, by decide +kernel, rfl, by decide +kernel, by decide +kernel⟩
theorem ok_free0 (F : FnP K "_free" s_u_free [] f fd) {n : Nat} : FnOk P w K mg base CX0 (n + 1) f fd ["formula", "bound", "found"] (spFree 0) := by
  refine F.ok sc_u_free (fun vs H Q E h => ?_) (fun cdv A outer s H vs Q E hr h => ?_)
  · obtain ⟨N, v, f, bt, l, b, fo, rfl, _⟩ := h
    rfl
  · obtain ⟨N, v, f, bt, l, b, fo, rfl, hd, hf, hlt, _⟩ := h
    exact absurd hlt (Nat.not_lt_zero _)
theorem ok_freeS (d : Nat) (F : FnP K "_free" s_u_free [] f fd) (G : Facts mg) (C_u_free : Cal P w K mg base (d + 2) "_free" (spFree d) []) :
    FnOk P w K mg base CX0 (d + 2 + 1) f fd ["formula", "bound", "found"] (spFree (d + 1)) := by
  refine F.ok sc_u_free (fun vs H Q E h => ?_) (fun cdv A outer s H vs Q E hr h => ?_)
  · obtain ⟨N, v, f, bt, l, b, fo, rfl, _⟩ := h
    rfl
  · obtain ⟨N, v, fm, bt, l, b, fo, rfl, hd, ⟨ar, hf⟩, hlt, hbt, hl, hbn, hfn, hk⟩ := h
    have hu := hu_of hr
    refine ⟨_, PSs.nox (pss_one (ps_if (pt_cmpR op_eq (pe_ix (kIxT K) (pv 0) pe_int (fun _ _ => rfl)) pe_str (nomark _)) (pss_one (ps_for PassesOwn.never rfl (kpi_tup K (pe_slice kSlT (pv 0) (po_some pe_int) po_none)) (kpg_tup K rfl (pgs_cons (pg_name (i := 3) sc_u_free.nd rfl (by first | exact .inl rfl | exact .inr rfl)) (pgs_cons (pg_name (i := 4) sc_u_free.nd rfl (by first | exact .inl rfl | exact .inr rfl)) pgs_nil)))
          (pss_one (ps_if (PW.pt (pw_and (pt_cmpR op_ne (pv 3) pe_str (nomark _)) (pw_and (pt_cmpR (kNotIn K) (pv 3) (pv 1) (by rfl)) (pw_and1 (pt_cmpR (kNotIn K) (pv 3) (pv 2) (by rfl)))))) (pss_one (ps_expr (pe_bm PySem.F.plainAttrs_list PySem.F.slot_list_append PySem.F.type_list_append mt_append (pv 2) (pa_cons (pv 3) pa_nil)))) pss_nil)))) (pss_one (ps_if (pt_cmpR op_eq (pe_ix (kIxT K) (pv 0) pe_int (fun _ _ => rfl)) pe_str (nomark _)) (pss_one (ps_expr (pe_c C_u_free hr (by omega) (by rfl) (pa_cons (pe_ix (kIxT K) (pv 0) pe_int (fun _ _ => rfl)) (pa_cons (pv 1) (pa_cons (pv 2) pa_nil)))))) (pss_one (ps_if (pt_cmpR (kIn K) (pe_ix (kIxT K) (pv 0) pe_int (fun _ _ => rfl)) (pe_tup (pa_cons pe_str (pa_cons pe_str pa_nil))) (by rfl)) (pss_one (ps_expr (pe_c C_u_free hr (by omega) (by rfl) (pa_cons (pe_ix (kIxT K) (pv 0) pe_int (fun _ _ => rfl)) (pa_cons (pe_op kCatT (pv 1) (pe_tup (pa_cons (pe_ix (kIxT K) (pv 0) pe_int (fun _ _ => rfl)) pa_nil))) (pa_cons (pv 2) pa_nil)))))) (pss_one (ps_for PassesOwn.never rfl (kpi_tup K (pe_ix (kIxT K) (pv 0) pe_int (fun _ _ => rfl))) (pg_name (i := 5) sc_u_free.nd rfl (by first | exact .inl rfl | exact .inr rfl))
              (pss_one (ps_expr (pe_c C_u_free hr (by omega) (by rfl) (pa_cons (pv 5) (pa_cons (pv 1) (pa_cons (pv 2) pa_nil)))))))))))))), ?_⟩
    have hd0 := hd
    rw [fmD_eq] at hd
    obtain ⟨t, xs, rfl, nt, lt, et, hd⟩ := Dt.tup_ hd
    obtain ⟨xs, rfl⟩ : ∃ xs', xs = .str (kindF fm) :: xs' := by
      cases hd with
      | cons h1 hd =>
        cases h1
        exact ⟨_, rfl⟩
    have hd : DtAll N H xs (restF fm) := by
      cases hd with
      | cons h1 hd => exact hd
    refine ⟨_, rfl, t, _, _, _, rfl, rfl, sqt et, atI_nat (j := 0) rfl, rfl, _, rfl, ?_⟩
    cases hf with
    | @cmp _ op pa pb ho hpa hpb =>
      have e0 : decide (V.str (kindF (.cmp op pa pb)) = V.str "compare") = true := decide_eq_true rfl
      rw [e0]
      cases hd with
      | cons h1 hd => cases hd with
        | cons h2 hd => cases hd with
          | cons h3 hd =>
            cases hd
            refine iteT ⟨_, rfl, _, rfl, t, _, rfl, et, fun H1 p s1 _ hp => ⟨p, rfl, ⟨_, sqt hp⟩, ?_⟩⟩
            obtain ⟨ta, xa, rfl, na, la, ea, hda⟩ := Dt.tup_ h2
            obtain ⟨tb, xb, rfl, nb, lb, eb, hdb⟩ := Dt.tup_ h3
            have exa : xa = [.str pa.1, .int pa.2] := by
              cases hda with
              | cons h1 h => cases h with
                | cons h2 h =>
                  cases h
                  cases h1
                  cases h2
                  rfl
            have exb : xb = [.str pb.1, .int pb.2] := by
              cases hdb with
              | cons h1 h => cases h with
                | cons h2 h =>
                  cases h
                  cases h1
                  cases h2
                  rfl
            subst exa
            subst exb
            have hl1 := s1 _ _ hl
            have hp' : H1 p = some (.tup [.ref ta, .ref tb]) := hp
            have ea1 := s1 _ _ ea
            have eb1 := s1 _ _ eb
            have hbt1 := s1 _ _ hbt
            refine for_it (walk_tup (K := K) (a := p) (xs := [.ref ta, .ref tb])) (fun j σ H' => ∃ x3 x4 : Option V, σ = [some (.ref t), some (.ref bt), some (.ref l), x3, x4, none] ∧ Frx l H1 H' ∧ H' l = some (.lst ((Df.addAll fo ((([pa.1, pb.1] : List Str).take j).filter (Df.frB b))).map V.str))) ⟨none, none, rfl, Frx.refl l H1, by rw [hl1]; simp [Df.addAll]⟩ (fun j σ H' _ ⟨_, _, _, fr, _⟩ => sqt (fr.tup hl1 hp')) ?_ ?_
            · rintro j y σ H9 H' hj ⟨x3, x4, rfl, fr, hl4⟩ ⟨eH, ey⟩
              obtain rfl : H' = H9 := eH
              have hj2 : j < 2 := hj
              obtain ⟨q, x, i, rfl, eq, etk⟩ : ∃ (q : Addr) (x : Str) (i : Int), y = .ref q ∧ H' q = some (.tup [.str x, .int i]) ∧ (([pa.1, pb.1] : List Str).take (j + 1)) = (([pa.1, pb.1] : List Str).take j) ++ [x] := by
                have : j = 0 ∨ j = 1 := by omega
                rcases this with rfl | rfl
                · cases ey
                  exact ⟨ta, pa.1, pa.2, rfl, fr.tup hl1 ea1, rfl⟩
                · cases ey
                  exact ⟨tb, pb.1, pb.2, rfl, fr.tup hl1 eb1, rfl⟩
              have hal := Df.addAll_len ((([pa.1, pb.1] : List Str).take j).filter (Df.frB b)) fo
              have hbt4 := fr.tup hl1 hbt1
              rw [etk, List.filter_append, Df.addAll_app]
              generalize Df.addAll fo ((([pa.1, pb.1] : List Str).take j).filter (Df.frB b)) = fo4 at hl4 hal ⊢
              refine ⟨q, _, rfl, sqt eq, rfl, _, _, rfl, _, _, rfl, rfl, ?_⟩
              have no : Df.frB b x = false → ∃ x3 x4 : Option V, [some (.ref t), some (.ref bt), some (.ref l), some (.str x), some (.int i), none] = [some (V.ref t), some (.ref bt), some (.ref l), x3, x4, none] ∧ Frx l H1 H' ∧ H' l = some (.lst ((Df.addAll fo4 (([x] : List Str).filter (Df.frB b))).map V.str)) := fun e => ⟨_, _, rfl, fr, by rw [hl4]; simp [e, Df.addAll]⟩
              refine ⟨_, rfl, rfl, _, rfl, ?_⟩
              by_cases h0 : x = "0"
              · rw [show (!decide (V.str x = V.str "0")) = false by simp [h0]]
                exact iteF (no (by simp [Df.frB, h0]))
              rw [show (!decide (V.str x = V.str "0")) = true by simp [h0]]
              refine iteT ⟨_, rfl, _, rfl, bt, _, rfl, .inr (sqt hbt4), rfl, flat_strs b, _, rfl, ?_⟩
              rw [inV_strs]
              by_cases hb : b.contains x = true
              · rw [hb]
                exact iteF (no (by simp only [Df.frB, hb]; simp))
              rw [show b.contains x = false by simpa using hb]
              have hfr : Df.frB b x = true := by
                rw [Df.frB, show b.contains x = false by simpa using hb]
                simp [h0]
              refine iteT ⟨_, rfl, _, rfl, l, _, rfl, .inl (sq hl4), rfl, flat_strs fo4, _, rfl, ?_⟩
              rw [inV_strs]
              by_cases hf4 : fo4.contains x = true
              · rw [hf4]
                refine iteF ⟨_, _, rfl, fr, ?_⟩
                rw [hl4]
                simp only [List.filter_cons, hfr, List.filter_nil, if_true, Df.addAll, List.foldl_cons, List.foldl_nil, Df.addD, hf4]
              rw [show fo4.contains x = false by simpa using hf4]
              refine iteT ⟨_, rfl, .inl ⟨rfl, _, sq hl4⟩, _, rfl, l, _, .str x, rfl, rfl, hl4, szlt ?_, ?_⟩
              · rw [List.length_map]
                have := List.length_filter_le (Df.frB b) ([pa.1, pb.1].take j)
                have : ([pa.1, pb.1].take j).length ≤ 2 := by rw [List.length_take]; simp; omega
                omega
              · refine ⟨_, _, rfl, fr.trans Frx.upd, ?_⟩
                rw [upd_same]
                simp only [List.filter_cons, hfr, List.filter_nil, if_true, Df.addAll, List.foldl_cons, List.foldl_nil, Df.addD, show fo4.contains x = false by simpa using hf4]
                simp
            · rintro σ H5 ⟨x3, x4, rfl, fr, hl5⟩
              exact hk H5 ((Frx.same s1).trans fr) (by rw [hl5]; simp [Df.freeL])
    | @no _ g hg =>
      have e0 : decide (V.str (kindF (.no g)) = V.str "compare") = false := by
        show decide (V.str "not" = V.str "compare") = false
        decide +kernel
      rw [e0]
      have e1 : decide (V.str (kindF (.no g)) = V.str "not") = true := decide_eq_true rfl
      cases hd with
      | cons h1 hd =>
        cases hd
        refine iteF ⟨_, rfl, t, _, _, _, rfl, rfl, sqt et, atI_nat (j := 0) rfl, rfl, _, rfl, ?_⟩
        rw [e1]
        refine iteT ⟨_, rfl, t, _, _, _, rfl, rfl, sqt et, atI_nat (j := 1) rfl, _, rfl, _, rfl, N, _, g, bt, l, b, fo, rfl, h1, ⟨_, hg⟩, by simp only [Df.ht] at hlt; omega, hbt, hl, by simp only [Df.ht] at hbn; omega, by simpa only [Df.freeL] using hfn, fun H2 fr hl2 => ?_⟩
        exact hk H2 fr (by simpa only [Df.freeL] using hl2)
    | @q _ k n g hk' hn hfr hg =>
      have e0 : decide (V.str (kindF (.q k n g)) = V.str "compare") = false := by
        show decide (V.str k = V.str "compare") = false
        rcases hk' with rfl | rfl <;> decide +kernel
      rw [e0]
      have e1 : decide (V.str (kindF (.q k n g)) = V.str "not") = false := by
        show decide (V.str k = V.str "not") = false
        rcases hk' with rfl | rfl <;> decide +kernel
      refine iteF ⟨_, rfl, t, _, _, _, rfl, rfl, sqt et, atI_nat (j := 0) rfl, rfl, _, rfl, ?_⟩
      rw [e1]
      refine iteF ⟨_, rfl, t, _, _, _, rfl, rfl, sqt et, atI_nat (j := 0) rfl, by show 2 ≤ sizeLine; decide, fun t2 nt2 => ⟨t2, _, rfl, .inr (sqt upd_same), rfl, rfl, _, rfl, ?_⟩⟩
      have s2 := same_upd nt2 (o := .tup [V.str "all", V.str "some"])
      have et2 := s2 _ _ et
      have hbt2 := s2 _ _ hbt
      have hl2 := s2 _ _ hl
      have hd2 : DtAll N (upd H t2 (.tup [V.str "all", V.str "some"])) xs (restF (.q k n g)) := hd.mono s2
      generalize upd H t2 (.tup [V.str "all", V.str "some"]) = H2 at s2 et2 hd2 hbt2 hl2 ⊢
      rw [show inV (V.str (kindF (.q k n g))) [V.str "all", V.str "some"] = [("all" : Str), "some"].contains k from inV_strs k [("all" : Str), "some"]]
      rw [show [("all" : Str), "some"].contains k = true by rcases hk' with rfl | rfl <;> decide +kernel]
      cases hd2 with
      | cons h1 hd2 => cases hd2 with
        | cons h2 hd2 =>
          cases hd2
          cases h1
          refine iteT ⟨_, rfl, t, _, _, _, rfl, rfl, sqt et2, atI_nat (j := 2) rfl, _, rfl, _, rfl, t, _, _, _, rfl, rfl, sqt et2, atI_nat (j := 1) rfl, by show 1 ≤ sizeLine; decide, fun t3 nt3 => ?_⟩
          have s3 := s2.trans (same_upd nt3 (o := .tup [V.str n]))
          have hbt3 := same_upd nt3 (o := .tup [V.str n]) _ _ hbt2
          have hl3 := same_upd nt3 (o := .tup [V.str n]) _ _ hl2
          have hd3 := h2.mono (same_upd nt3 (o := .tup [V.str n]))
          have ht3 : upd H2 t3 (.tup [V.str n]) t3 = some (.tup [V.str n]) := upd_same
          generalize upd H2 t3 (.tup [V.str n]) = H3 at s3 hbt3 hl3 hd3 ht3 ⊢
          refine ⟨bt, t3, _, _, rfl, rfl, hbt3, ht3, ?_, fun H4 p s4 _ hp => ?_⟩
          · rw [List.length_map]
            exact Nat.le_trans (by simp only [List.length_cons, List.length_nil]; omega : _ ≤ 1001) (by decide)
          refine ⟨_, rfl, N, _, g, p, l, b ++ [n], fo, rfl, hd3.mono s4, ⟨_, hg⟩, by simp only [Df.ht] at hlt; omega, by rw [hp]; simp, s4 _ _ hl3, by simp only [Df.ht] at hbn; rw [List.length_append]; simp only [List.length_cons, List.length_nil]; omega, by simpa only [Df.freeL] using hfn, fun H5 fr hl5 => ?_⟩
          exact hk H5 ((Frx.same (s3.trans s4)).trans fr) (by simpa only [Df.freeL] using hl5)
    | @row _ k fs hk' hl' hs =>
      have e0 : decide (V.str (kindF (.row k fs)) = V.str "compare") = false := by
        show decide (V.str k = V.str "compare") = false
        rcases hk' with rfl | rfl <;> decide +kernel
      rw [e0]
      have e1 : decide (V.str (kindF (.row k fs)) = V.str "not") = false := by
        show decide (V.str k = V.str "not") = false
        rcases hk' with rfl | rfl <;> decide +kernel
      refine iteF ⟨_, rfl, t, _, _, _, rfl, rfl, sqt et, atI_nat (j := 0) rfl, rfl, _, rfl, ?_⟩
      rw [e1]
      refine iteF ⟨_, rfl, t, _, _, _, rfl, rfl, sqt et, atI_nat (j := 0) rfl, by show 2 ≤ sizeLine; decide, fun t2 nt2 => ⟨t2, _, rfl, .inr (sqt upd_same), rfl, rfl, _, rfl, ?_⟩⟩
      have s2 := same_upd nt2 (o := .tup [V.str "all", V.str "some"])
      have et2 := s2 _ _ et
      have hbt2 := s2 _ _ hbt
      have hl2 := s2 _ _ hl
      have hd2 : DtAll N (upd H t2 (.tup [V.str "all", V.str "some"])) xs (restF (.row k fs)) := hd.mono s2
      generalize upd H t2 (.tup [V.str "all", V.str "some"]) = H2 at s2 et2 hd2 hbt2 hl2 ⊢
      rw [show inV (V.str (kindF (.row k fs))) [V.str "all", V.str "some"] = [("all" : Str), "some"].contains k from inV_strs k [("all" : Str), "some"]]
      rw [show [("all" : Str), "some"].contains k = false by rcases hk' with rfl | rfl <;> decide +kernel]
      obtain ⟨vp, rfl, hvp⟩ : ∃ vp, xs = [vp] ∧ Dt N H2 vp (.tuple (fmDs fs)) := by
        cases hd2 with
        | cons h1 hd2 =>
          cases hd2
          exact ⟨_, rfl, h1⟩
      obtain ⟨tp, ps, rfl, np, lp, ep, hps⟩ := Dt.tup_ hvp
      have hpl := hps.len
      rw [fmDs_map, List.length_map] at hpl
      have hfn' : fo.length + (Df.freeLs fs b).length ≤ 100000 := by simpa only [Df.freeL] using hfn
      refine iteF ⟨_, rfl, t, _, _, _, rfl, rfl, sqt et2, atI_nat (j := 1) rfl, tp, rfl, ⟨_, sqt ep⟩, ?_⟩
      refine for_it (walk_tup (K := K) (a := tp) (xs := ps)) (fun j σ H' => ∃ x5 : Option V, σ = [some (.ref t), some (.ref bt), some (.ref l), none, none, x5] ∧ Frx l H2 H' ∧ H' l = some (.lst ((Df.addAll fo (Df.freeLs (fs.take j) b)).map V.str))) ⟨none, rfl, Frx.refl l H2, by rw [hl2]; simp [Df.freeLs, Df.addAll]⟩ (fun j σ H' _ ⟨_, _, fr, _⟩ => sqt (fr.tup hl2 ep)) ?_ ?_
      · rintro j y σ H9 H' hj ⟨x5, rfl, fr, hl4⟩ ⟨eH, ey⟩
        obtain rfl : H' = H9 := eH
        rw [hpl] at hj
        obtain ⟨v, hv, hvd⟩ := hps.get (i := j) (d := fmD fs[j]) (by rw [fmDs_map, List.getElem?_map, List.getElem?_eq_getElem hj]; rfl)
        rw [hv] at ey
        cases ey
        have hm := List.getElem_mem hj
        have hlen := Df.freeLs_len fs b (j + 1)
        rw [Df.freeLs_take fs b hj, List.length_append] at hlen
        have hal := Df.addAll_len (Df.freeLs (fs.take j) b) fo
        refine ⟨_, rfl, _, rfl, _, rfl, N, _, fs[j], bt, l, b, _, rfl, fm_to (fun b' xs _ e => fr.tup hl2 e) _ hvd, ⟨_, hs _ hm⟩, ?_, fr.tup hl2 hbt2, hl4, ?_, by omega, fun H5 fr5 hl5 => ?_⟩
        · have := Df.ht_le hm
          simp only [Df.ht] at hlt
          omega
        · have := Df.ht_le hm
          simp only [Df.ht] at hbn
          omega
        · refine ⟨_, rfl, fr.trans fr5, ?_⟩
          rw [hl5, Df.freeLs_take fs b hj, Df.addAll_app]
      · rintro σ H5 ⟨x5, rfl, fr, hl5⟩
        rw [hpl, List.take_length] at hl5
        exact hk H5 ((Frx.same s2).trans fr) (by simpa only [Df.freeL] using hl5)
end
end K1

namespace K1
open PySem PySem.Spec PyProof.Rows L2 Ls
def spFN (d : Nat) : Sp := fun vs H Q _ => ∃ (N : Addr → Prop) (v : V) (f : Df.Fm), vs = [v] ∧ Dt N H v (fmD f) ∧ OkX f ∧ Df.ht f < d ∧ Df.ht f ≤ 1000 ∧ (Df.freeL f []).length ≤ 100000 ∧
  ∀ H' p, Same H H' → H' p = some (.tup ((Df.addAll [] (Df.freeL f [])).map V.str)) → Q (.ref p) H'
section
variable {P : Program} {w : World} {K : PySem.W.Frag} {mg : Str → Option Value} {base : Heap} {f W Pt C CE : Addr} {fd : FuncData} {k : Nat}
theorem sc_free_names : FnScope ["formula", "found"] ["formula"] (defScope s_free_names) := ⟨rfl, rfl, rfl, by decide +kernel, rfl, by decide +kernel, by decide +kernel⟩
theorem ok_free_names (d : Nat) (F : FnP K "free_names" s_free_names [] f fd) (G : Facts mg) (C_u_free : Cal P w K mg base (d + 2) "_free" (spFree d) []) :
    FnOk P w K mg base CX0 (d + 2 + 1) f fd ["formula"] (spFN d) := by
  refine F.ok sc_free_names (fun vs H Q E h => ?_) (fun cdv A outer s H vs Q E hr h => ?_)
  · obtain ⟨N, v, f, rfl, _⟩ := h
    rfl
  · obtain ⟨N, v, fm, rfl, hd, hf, hlt, h1, hfn, hk⟩ := h
    have hu := hu_of hr
    refine ⟨_, PSs.nox (pss_cons (ps_set (i := 1) sc_free_names.nd rfl (.inl rfl) (pe_lst pa_nil))
      (pss_cons (ps_expr (pe_c C_u_free hr (by omega) (by rfl) (pa_cons (pv 0) (pa_cons (pe_tup pa_nil) (pa_cons (pv 1) pa_nil)))))
      (pss_one (ps_ret (pe_callTy kTuple (by rfl) G.tuple_ (by decide +kernel) (pa_cons (pv 1) pa_nil)))))), ?_⟩
    refine ⟨by show 0 ≤ sizeLine; decide, fun l nl => ?_⟩
    have s1 := same_upd nl (o := .lst [])
    have hl1 : upd H l (.lst []) l = some (.lst []) := upd_same
    generalize upd H l (.lst []) = H1 at s1 hl1 ⊢
    refine ⟨_, rfl, ?_⟩
    refine ⟨by show 0 ≤ sizeLine; decide, fun t nt => ?_⟩
    have s2 := same_upd nt (o := .tup [])
    have hl2 := s2 _ _ hl1
    have ht2 : upd H1 t (.tup []) t = some (.tup []) := upd_same
    generalize upd H1 t (.tup []) = H2 at s2 hl2 ht2 ⊢
    refine ⟨_, rfl, N, _, fm, t, l, [], [], rfl, hd.mono (s1.trans s2), hf, hlt, ht2, hl2, by simpa using h1, by simpa using hfn, fun H3 fr hl3 => ?_⟩
    have fr0 : Same H H3 := fun a o e => fr a o (ne_of_none e nl) ((s1.trans s2) a o e)
    exact ⟨_, rfl, l, _, rfl, .inl hl3, fun H4 p s4 _ hp => hk H4 p (fr0.trans s4) hp⟩
/-! ### the law's own list -/
def spLFree (d : Nat) : Sp := fun vs H Q _ => ∃ (N : Addr → Prop) (v : V) (f : Df.Fm) (bl : Addr) (b : List Str), vs = [v, .ref bl] ∧ Dt N H v (fmD f) ∧ OkX f ∧ Df.ht f < d ∧ H bl = some (.lst (b.map V.str)) ∧ b.length + Df.ht f ≤ 1000 ∧ (Df.freeL f b).length ≤ 100000 ∧
  ∀ H' p, Same H H' → H' p = some (.lst ((Df.freeL f b).map V.str)) → Q (.ref p) H'
theorem sc_u_law_free : FnScope ["tree", "bound", "atom", "found", "part"] ["tree", "bound"] (defScope s_u_law_free) := ⟨rfl, rfl, rfl, by decide +kernel, rfl, by decide +kernel, by decide +kernel⟩
theorem ok_law_free0 (F : FnP K "_law_free" s_u_law_free [] f fd) {n : Nat} : FnOk P w K mg base CX0 (n + 1) f fd ["tree", "bound"] (spLFree 0) := by
  refine F.ok sc_u_law_free (fun vs H Q E h => ?_) (fun cdv A outer s H vs Q E hr h => ?_)
  · obtain ⟨N, v, f, bl, b, rfl, _⟩ := h
    rfl
  · obtain ⟨N, v, f, bl, b, rfl, hd, hf, hlt, _⟩ := h
    exact absurd hlt (Nat.not_lt_zero _)
theorem ok_law_freeS (d : Nat) (F : FnP K "_law_free" s_u_law_free [] f fd) (G : Facts mg) (C_u_law_free : Cal P w K mg base (d + 2) "_law_free" (spLFree d) []) :
    FnOk P w K mg base CX0 (d + 2 + 1) f fd ["tree", "bound"] (spLFree (d + 1)) := by
  refine F.ok sc_u_law_free (fun vs H Q E h => ?_) (fun cdv A outer s H vs Q E hr h => ?_)
  · obtain ⟨N, v, f, bl, b, rfl, _⟩ := h
    rfl
  · obtain ⟨N, v, fm, bl, b, rfl, hd, ⟨ar, hf⟩, hlt, hbl, hbn, hfn, hk⟩ := h
    have hu := hu_of hr
    refine ⟨_, PSs.nox (pss_cons (ps_if (pt_cmpR op_eq (pe_ix (kIxT K) (pv 0) pe_int (fun _ _ => rfl)) pe_str (nomark _)) (pss_one (ps_ret (pe_lc (own := [("atom", 2)]) (g := gName 2) rfl sc_u_law_free.nd  (kpi_tup K (pe_slice kSlT (pv 0) (po_some pe_int) po_none)) (blkOk_by (by kernel_rfl)) (fun _ _ _ _ _ => (pg_name (i := 2) sc_u_law_free.nd rfl (by first | exact .inl rfl | exact .inr rfl))) (fun _ _ _ _ _ => (pts_one (PW.pt (pw_and (pt_cmpR op_ne (pe_ix (kIxT K) (pv 2) pe_int (fun _ _ => rfl)) pe_str (nomark _)) (pw_and1 (pt_cmpR (kNotIn K) (pe_ix (kIxT K) (pv 2) pe_int (fun _ _ => rfl)) (pv 1) (by rfl))))))) (fun _ _ _ _ _ => (pe_ix (kIxT K) (pv 2) pe_int (fun _ _ => rfl)))))) pss_nil)
      (pss_cons (ps_if (pt_cmpR op_eq (pe_ix (kIxT K) (pv 0) pe_int (fun _ _ => rfl)) pe_str (nomark _)) (pss_one (ps_ret (pe_c C_u_law_free hr (by omega) (by rfl) (pa_cons (pe_ix (kIxT K) (pv 0) pe_int (fun _ _ => rfl)) (pa_cons (pv 1) pa_nil))))) pss_nil)
      (pss_cons (ps_if (pt_cmpR (kIn K) (pe_ix (kIxT K) (pv 0) pe_int (fun _ _ => rfl)) (pe_tup (pa_cons pe_str (pa_cons pe_str pa_nil))) (by rfl)) (pss_one (ps_ret (pe_c C_u_law_free hr (by omega) (by rfl) (pa_cons (pe_ix (kIxT K) (pv 0) pe_int (fun _ _ => rfl)) (pa_cons (pe_op op_cat (pv 1) (pe_lst (pa_cons (pe_ix (kIxT K) (pv 0) pe_int (fun _ _ => rfl)) pa_nil))) pa_nil))))) pss_nil)
      (pss_cons (ps_set (i := 3) sc_u_law_free.nd rfl (.inl rfl) (pe_lst pa_nil))
      (pss_cons (ps_for PassesOwn.never rfl (kpi_tup K (pe_ix (kIxT K) (pv 0) pe_int (fun _ _ => rfl))) (pg_name (i := 4) sc_u_law_free.nd rfl (by first | exact .inl rfl | exact .inr rfl))
        (pss_one (ps_set (i := 3) sc_u_law_free.nd rfl (.inl rfl) (pe_op op_cat (pv 3) (pe_c C_u_law_free hr (by omega) (by rfl) (pa_cons (pv 4) (pa_cons (pv 1) pa_nil)))))))
      (pss_one (ps_ret (pv 3)))))))), ?_⟩
    have hd0 := hd
    rw [fmD_eq] at hd
    obtain ⟨t, xs, rfl, nt, lt, et, hd⟩ := Dt.tup_ hd
    obtain ⟨xs, rfl⟩ : ∃ xs', xs = .str (kindF fm) :: xs' := by
      cases hd with
      | cons h1 hd =>
        cases h1
        exact ⟨_, rfl⟩
    have hd : DtAll N H xs (restF fm) := by
      cases hd with
      | cons h1 hd => exact hd
    refine ⟨_, rfl, t, _, _, _, rfl, rfl, sqt et, atI_nat (j := 0) rfl, rfl, _, rfl, ?_⟩
    cases hf with
    | @cmp _ op pa pb ho hpa hpb =>
      have e0 : decide (V.str (kindF (.cmp op pa pb)) = V.str "compare") = true := decide_eq_true rfl
      rw [e0]
      cases hd with
      | cons h1 hd => cases hd with
        | cons h2 hd => cases hd with
          | cons h3 hd =>
            cases hd
            refine iteT ⟨_, rfl, _, rfl, t, _, rfl, et, fun H1 p s1 _ hp => ⟨p, rfl, ⟨_, sqt hp⟩, fun D hD => ?_⟩⟩
            obtain ⟨ta, xa, rfl, na, la, ea, hda⟩ := Dt.tup_ h2
            obtain ⟨tb, xb, rfl, nb, lb, eb, hdb⟩ := Dt.tup_ h3
            have exa : xa = [.str pa.1, .int pa.2] := by
              cases hda with
              | cons h1 h => cases h with
                | cons h2 h =>
                  cases h
                  cases h1
                  cases h2
                  rfl
            have exb : xb = [.str pb.1, .int pb.2] := by
              cases hdb with
              | cons h1 h => cases h with
                | cons h2 h =>
                  cases h
                  cases h1
                  cases h2
                  rfl
            subst exa
            subst exb
            have hp' : H1 p = some (.tup [.ref ta, .ref tb]) := hp
            have ea1 := s1 _ _ ea
            have eb1 := s1 _ _ eb
            have hbl1 := s1 _ _ hbl
            refine lc_it (walk_tup (K := K) (a := p) (xs := [.ref ta, .ref tb])) (fun j H' => Same H1 H' ∧ H' D = some (.lst (((([pa.1, pb.1] : List Str).take j).filter (Df.frB b)).map V.str))) ⟨same_upd hD, by rw [upd_same]; simp⟩ (fun j H' _ ⟨fr, _⟩ => sqt (fr _ _ hp')) ?_ ?_
            · rintro j y H9 H' hj ⟨fr, hl4⟩ ⟨eH, ey⟩
              obtain rfl : H' = H9 := eH
              have hj2 : j < 2 := hj
              obtain ⟨q, x, i, rfl, eq, etk⟩ : ∃ (q : Addr) (x : Str) (i : Int), y = .ref q ∧ H' q = some (.tup [.str x, .int i]) ∧ (([pa.1, pb.1] : List Str).take (j + 1)) = (([pa.1, pb.1] : List Str).take j) ++ [x] := by
                have : j = 0 ∨ j = 1 := by omega
                rcases this with rfl | rfl
                · cases ey
                  exact ⟨ta, pa.1, pa.2, rfl, fr _ _ ea1, rfl⟩
                · cases ey
                  exact ⟨tb, pb.1, pb.2, rfl, fr _ _ eb1, rfl⟩
              have hbl4 := fr _ _ hbl1
              have hln : ((([pa.1, pb.1] : List Str).take j).filter (Df.frB b)).length ≤ 2 := by
                have := List.length_filter_le (Df.frB b) ([pa.1, pb.1].take j)
                have : ([pa.1, pb.1].take j).length ≤ 2 := by rw [List.length_take]; simp; omega
                omega
              rw [etk, List.filter_append]
              generalize (([pa.1, pb.1] : List Str).take j).filter (Df.frB b) = fo4 at hl4 hln ⊢
              have no : Df.frB b x = false → Same H1 H' ∧ H' D = some (.lst ((fo4 ++ ([x] : List Str).filter (Df.frB b)).map V.str)) := fun e => ⟨fr, by rw [hl4]; simp [e]⟩
              refine ⟨rfl, ?_⟩
              refine ⟨_, rfl, q, _, _, _, rfl, rfl, sqt eq, atI_nat (j := 0) rfl, rfl, _, rfl, ?_⟩
              by_cases h0 : x = "0"
              · rw [show (!decide (V.str x = V.str "0")) = false by simp [h0]]
                exact iteF (no (by simp [Df.frB, h0]))
              rw [show (!decide (V.str x = V.str "0")) = true by simp [h0]]
              refine iteT ⟨_, rfl, q, _, _, _, rfl, rfl, sqt eq, atI_nat (j := 0) rfl, _, rfl, bl, _, rfl, .inl (sq hbl4), rfl, flat_strs b, _, rfl, ?_⟩
              rw [inV_strs]
              by_cases hb : b.contains x = true
              · rw [hb]
                exact iteF (no (by simp only [Df.frB, hb]; simp))
              rw [show b.contains x = false by simpa using hb]
              have hfr : Df.frB b x = true := by
                rw [Df.frB, show b.contains x = false by simpa using hb]
                simp [h0]
              refine iteT ⟨_, rfl, q, _, _, _, rfl, rfl, sqt eq, atI_nat (j := 0) rfl, _, hl4, szlt (by rw [List.length_map]; omega), same_mut fr hD, ?_⟩
              rw [upd_same]
              simp [hfr]
            · rintro H5 ⟨fr, hl5⟩
              exact hk H5 D (s1.trans fr) (by rw [hl5]; simp [Df.freeL])
    | @no _ g hg =>
      have e0 : decide (V.str (kindF (.no g)) = V.str "compare") = false := by
        show decide (V.str "not" = V.str "compare") = false
        decide +kernel
      rw [e0]
      have e1 : decide (V.str (kindF (.no g)) = V.str "not") = true := decide_eq_true rfl
      cases hd with
      | cons h1 hd =>
        cases hd
        refine iteF ⟨_, rfl, t, _, _, _, rfl, rfl, sqt et, atI_nat (j := 0) rfl, rfl, _, rfl, ?_⟩
        rw [e1]
        refine iteT ⟨_, rfl, t, _, _, _, rfl, rfl, sqt et, atI_nat (j := 1) rfl, _, rfl, N, _, g, bl, b, rfl, h1, ⟨_, hg⟩, by simp only [Df.ht] at hlt; omega, hbl, by simp only [Df.ht] at hbn; omega, by simpa only [Df.freeL] using hfn, fun H2 p s2 hp => ?_⟩
        exact hk H2 p s2 (by simpa only [Df.freeL] using hp)
    | @q _ k n g hk' hn hfr hg =>
      have e0 : decide (V.str (kindF (.q k n g)) = V.str "compare") = false := by
        show decide (V.str k = V.str "compare") = false
        rcases hk' with rfl | rfl <;> decide +kernel
      rw [e0]
      have e1 : decide (V.str (kindF (.q k n g)) = V.str "not") = false := by
        show decide (V.str k = V.str "not") = false
        rcases hk' with rfl | rfl <;> decide +kernel
      refine iteF ⟨_, rfl, t, _, _, _, rfl, rfl, sqt et, atI_nat (j := 0) rfl, rfl, _, rfl, ?_⟩
      rw [e1]
      refine iteF ⟨_, rfl, t, _, _, _, rfl, rfl, sqt et, atI_nat (j := 0) rfl, by show 2 ≤ sizeLine; decide, fun t2 nt2 => ⟨t2, _, rfl, .inr (sqt upd_same), rfl, rfl, _, rfl, ?_⟩⟩
      have s2 := same_upd nt2 (o := .tup [V.str "all", V.str "some"])
      have et2 := s2 _ _ et
      have hbl2 := s2 _ _ hbl
      have hd2 : DtAll N (upd H t2 (.tup [V.str "all", V.str "some"])) xs (restF (.q k n g)) := hd.mono s2
      generalize upd H t2 (.tup [V.str "all", V.str "some"]) = H2 at s2 et2 hd2 hbl2 ⊢
      rw [show inV (V.str (kindF (.q k n g))) [V.str "all", V.str "some"] = [("all" : Str), "some"].contains k from inV_strs k [("all" : Str), "some"]]
      rw [show [("all" : Str), "some"].contains k = true by rcases hk' with rfl | rfl <;> decide +kernel]
      cases hd2 with
      | cons h1 hd2 => cases hd2 with
        | cons h2 hd2 =>
          cases hd2
          cases h1
          refine iteT ⟨_, rfl, t, _, _, _, rfl, rfl, sqt et2, atI_nat (j := 2) rfl, _, rfl, _, rfl, t, _, _, _, rfl, rfl, sqt et2, atI_nat (j := 1) rfl, by show 1 ≤ sizeLine; decide, fun t3 nt3 => ?_⟩
          have s3 := s2.trans (same_upd nt3 (o := .lst [V.str n]))
          have hbl3 := same_upd nt3 (o := .lst [V.str n]) _ _ hbl2
          have hd3 := h2.mono (same_upd nt3 (o := .lst [V.str n]))
          have ht3 : upd H2 t3 (.lst [V.str n]) t3 = some (.lst [V.str n]) := upd_same
          generalize upd H2 t3 (.lst [V.str n]) = H3 at s3 hbl3 hd3 ht3 ⊢
          refine ⟨bl, t3, _, _, rfl, rfl, hbl3, ht3, ?_, fun p np => ?_⟩
          · rw [List.length_map]
            exact Nat.le_trans (by simp only [List.length_cons, List.length_nil]; omega : _ ≤ 1001) (by decide)
          have s4 := same_upd np (o := .lst (b.map V.str ++ [V.str n]))
          have hp : upd H3 p (.lst (b.map V.str ++ [V.str n])) p = some (.lst (b.map V.str ++ [V.str n])) := upd_same
          generalize upd H3 p (.lst (b.map V.str ++ [V.str n])) = H4 at s4 hp ⊢
          refine ⟨N, _, g, p, b ++ [n], rfl, hd3.mono s4, ⟨_, hg⟩, by simp only [Df.ht] at hlt; omega, by rw [hp]; simp, by simp only [Df.ht] at hbn; rw [List.length_append]; simp only [List.length_cons, List.length_nil]; omega, by simpa only [Df.freeL] using hfn, fun H5 p5 s5 hp5 => ?_⟩
          exact hk H5 p5 (s3.trans (s4.trans s5)) (by simpa only [Df.freeL] using hp5)
    | @row _ k fs hk' hl' hs =>
      have e0 : decide (V.str (kindF (.row k fs)) = V.str "compare") = false := by
        show decide (V.str k = V.str "compare") = false
        rcases hk' with rfl | rfl <;> decide +kernel
      rw [e0]
      have e1 : decide (V.str (kindF (.row k fs)) = V.str "not") = false := by
        show decide (V.str k = V.str "not") = false
        rcases hk' with rfl | rfl <;> decide +kernel
      refine iteF ⟨_, rfl, t, _, _, _, rfl, rfl, sqt et, atI_nat (j := 0) rfl, rfl, _, rfl, ?_⟩
      rw [e1]
      refine iteF ⟨_, rfl, t, _, _, _, rfl, rfl, sqt et, atI_nat (j := 0) rfl, by show 2 ≤ sizeLine; decide, fun t2 nt2 => ⟨t2, _, rfl, .inr (sqt upd_same), rfl, rfl, _, rfl, ?_⟩⟩
      have s2 := same_upd nt2 (o := .tup [V.str "all", V.str "some"])
      have et2 := s2 _ _ et
      have hbl2 := s2 _ _ hbl
      have hd2 : DtAll N (upd H t2 (.tup [V.str "all", V.str "some"])) xs (restF (.row k fs)) := hd.mono s2
      generalize upd H t2 (.tup [V.str "all", V.str "some"]) = H2 at s2 et2 hd2 hbl2 ⊢
      rw [show inV (V.str (kindF (.row k fs))) [V.str "all", V.str "some"] = [("all" : Str), "some"].contains k from inV_strs k [("all" : Str), "some"]]
      rw [show [("all" : Str), "some"].contains k = false by rcases hk' with rfl | rfl <;> decide +kernel]
      obtain ⟨vp, rfl, hvp⟩ : ∃ vp, xs = [vp] ∧ Dt N H2 vp (.tuple (fmDs fs)) := by
        cases hd2 with
        | cons h1 hd2 =>
          cases hd2
          exact ⟨_, rfl, h1⟩
      obtain ⟨tp, ps, rfl, np, lp, ep, hps⟩ := Dt.tup_ hvp
      have hpl := hps.len
      rw [fmDs_map, List.length_map] at hpl
      have hfn' : (Df.freeLs fs b).length ≤ 100000 := by simpa only [Df.freeL] using hfn
      refine iteF ⟨by show 0 ≤ sizeLine; decide, fun l nl => ?_⟩
      have s3 := same_upd nl (o := .lst [])
      have hl3 : upd H2 l (.lst []) l = some (.lst []) := upd_same
      have et3 := s3 _ _ et2
      have ep3 := s3 _ _ ep
      have hbl3 := s3 _ _ hbl2
      have hps3 := hps.mono s3
      generalize upd H2 l (.lst []) = H3 at s3 hl3 et3 ep3 hbl3 hps3 ⊢
      refine ⟨_, rfl, t, _, _, _, rfl, rfl, sqt et3, atI_nat (j := 1) rfl, tp, rfl, ⟨_, sqt ep3⟩, ?_⟩
      refine for_it (walk_tup (K := K) (a := tp) (xs := ps)) (fun j σ H' => ∃ (x4 : Option V) (p : Addr), σ = [some (.ref t), some (.ref bl), none, some (.ref p), x4] ∧ Same H3 H' ∧ H' p = some (.lst ((Df.freeLs (fs.take j) b).map V.str))) ⟨none, l, rfl, Same.refl H3, by rw [hl3]; simp [Df.freeLs]⟩ (fun j σ H' _ ⟨_, _, _, fr, _⟩ => sqt (fr _ _ ep3)) ?_ ?_
      · rintro j y σ H9 H' hj ⟨x4, p, rfl, fr, hl4⟩ ⟨eH, ey⟩
        obtain rfl : H' = H9 := eH
        rw [hpl] at hj
        obtain ⟨v, hv, hvd⟩ := hps3.get (i := j) (d := fmD fs[j]) (by rw [fmDs_map, List.getElem?_map, List.getElem?_eq_getElem hj]; rfl)
        rw [hv] at ey
        cases ey
        have hm := List.getElem_mem hj
        have hlen := Df.freeLs_len fs b (j + 1)
        rw [Df.freeLs_take fs b hj, List.length_append] at hlen
        refine ⟨_, rfl, _, rfl, _, rfl, N, _, fs[j], bl, b, rfl, hvd.mono fr, ⟨_, hs _ hm⟩, ?_, fr _ _ hbl3, ?_, by omega, fun H5 p5 s5 hp5 => ?_⟩
        · have := Df.ht_le hm
          simp only [Df.ht] at hlt
          omega
        · have := Df.ht_le hm
          simp only [Df.ht] at hbn
          omega
        · refine ⟨p, p5, _, _, rfl, rfl, s5 _ _ hl4, hp5, ?_, fun r nr => ⟨_, r, rfl, (fr.trans s5).trans (same_upd nr), ?_⟩⟩
          · rw [List.length_map, List.length_map]
            exact Nat.le_trans (by omega : _ ≤ 100000) (by decide)
          · rw [upd_same, Df.freeLs_take fs b hj, List.map_append]
      · rintro σ H5 ⟨x4, p, rfl, fr, hl5⟩
        rw [hpl, List.take_length] at hl5
        exact ⟨_, rfl, hk H5 p (s2.trans (s3.trans fr)) (by simpa only [Df.freeL] using hl5)⟩
end
end K1

namespace K1
open PySem PySem.Spec PyProof.Rows L2 Ls
/-! ### what the script draws -/
theorem SqL.mono {K : PySem.W.Frag} {H H' : Hp} (s : Same H H') {a : Addr} {xs : List V} (h : SqL K H a xs) : SqL K H' a xs := by
  rcases h with h | h
  · rcases h with h | ⟨o, h⟩
    · exact .inl (.inl (s _ _ h))
    · exact .inl (.inr ⟨o, s _ _ h⟩)
  · exact .inr h
def Scr (K : PySem.W.Frag) (H : Hp) (a : Addr) (ns : List Int) : Prop := SqL K H a (ns.map V.int) ∧ ns.length ≤ 1000
theorem Scr.mono {K : PySem.W.Frag} {H H' : Hp} (s : Same H H') {a : Addr} {ns : List Int} (h : Scr K H a ns) : Scr K H' a ns := ⟨SqL.mono s h.1, h.2⟩
def spDraw (K : PySem.W.Frag) : Sp := fun vs H Q _ => ∃ (a : Addr) (ns : List Int) (at_ many : Int), vs = [.ref a, .int at_, .int many] ∧ Scr K H a ns ∧ 0 < many ∧ ∀ H' d, Same H H' → 0 ≤ d → d < many → Q (.int d) H'
theorem dpInts (K : PySem.W.Frag) (H : Hp) : ∀ ns : List Int, DpAll K H (ns.map V.int) (ns.map PyData.int)
  | [] => .nil
  | n :: ns => .cons (.int n) (dpInts K H ns)
theorem eqv_nil (ns : List Int) : PyData.eqv (.list (ns.map PyData.int)) (.list []) = ns.isEmpty := by
  cases ns with
  | nil => simp [PyData.eqv, PyData.eqvAll]
  | cons n ns => simp [PyData.eqv, PyData.eqvAll]
theorem cut60 (ns : List Int) : cutV (ns.map V.int) none (some 60) = (ns.take 60).map V.int := by
  unfold cutV
  have h1 : HT.sIx (ns.map V.int).length (ns.map V.int).length (some 60) = min 60 (ns.map V.int).length := by
    have := HT.sIx_nat (ns.map V.int).length (ns.map V.int).length 60
    rw [show (some (60 : Int)) = some ((60 : Nat) : Int) from rfl, this]
  rw [h1, HT.sIx_none, List.drop_zero, Nat.sub_zero, List.map_take]
  rw [← List.take_eq_take_min]
section
variable {P : Program} {w : World} {K : PySem.W.Frag} {mg : Str → Option Value} {base : Heap} {f C : Addr} {fd : FuncData} {k : Nat}
theorem sc_u_law_draw : FnScope ["script", "at", "many", "row", "cell", "turn", "step", "mixed"] ["script", "at", "many"] (defScope s_u_law_draw) := ⟨rfl, rfl, rfl, by decide +kernel, rfl, by decide +kernel, by decide +kernel⟩
theorem ok_draw (F : FnP K "_law_draw" s_u_law_draw [] f fd) (G : Facts mg) : FnOk P w K mg base CX0 1 f fd ["script", "at", "many"] (spDraw K) := by
  refine F.ok sc_u_law_draw (fun vs H Q E h => ?_) (fun cdv A outer s H vs Q E hr h => ?_)
  · obtain ⟨a, ns, at_, many, rfl, _⟩ := h
    rfl
  · obtain ⟨a, ns, at_, many, rfl, ⟨hS, hlen⟩, hm, hk⟩ := h
    have hu := hu_of hr
    refine ⟨_, PSs.nox (pss_cons (ps_set (i := 3) sc_u_law_draw.nd rfl (.inl rfl) (pe_ifExp (pt_cmpR (kNeD K hr.units) (pv 0) (pe_lst pa_nil) (nomark _)) (pe_slice (kSlL K) (pv 0) po_none (po_some pe_int)) (pe_lst (pa_cons pe_int pa_nil))))
      (pss_cons (ps_par (i := 4) (j := 5) (by rfl) sc_u_law_draw.nd rfl rfl (by decide) rfl rfl (pa_cons (pe_ix (kIxL K) (pv 3) (pe_op op_mod (pv 1) (pe_callB (kLen K) (by rfl) G.len_ PySem.boot_len (pa_cons (pv 3) pa_nil))) (fun _ _ => rfl)) (pa_cons (pe_op op_fdiv (pv 1) (pe_callB (kLen K) (by rfl) G.len_ PySem.boot_len (pa_cons (pv 3) pa_nil))) pa_nil)) (by rfl))
      (pss_cons (ps_if (pt_cmpR op_ge (pv 4) (pe_op op_pow pe_int pe_int) (nomark _)) (pss_cons (ps_set (i := 4) sc_u_law_draw.nd rfl (.inl rfl) (pe_op op_mod (pe_callTy call_int1 (by rfl) G.int_ (by decide +kernel) (pa_cons (pv 4) pa_nil)) (pe_op op_pow pe_int pe_int)))
        (pss_cons (ps_for PassesOwn.never rfl (pi_range1 (by rfl) G.range_ (pa_cons (pe_op op_mod (pv 5) pe_int) pa_nil)) (pg_name (i := 6) sc_u_law_draw.nd rfl (by first | exact .inl rfl | exact .inr rfl))
          (pss_one (ps_set (i := 4) sc_u_law_draw.nd rfl (.inl rfl) (pe_op op_fdiv (pv 4) pe_int))))
        (pss_one (ps_ret (pe_op op_mod (pe_op op_mod (pe_callTy call_int1 (by rfl) G.int_ (by decide +kernel) (pa_cons (pv 4) pa_nil)) pe_int) (pv 2)))))) pss_nil)
      (pss_cons (ps_set (i := 7) sc_u_law_draw.nd rfl (.inl rfl) (pe_op op_add (pe_op op_mul (pe_op op_add (pe_op op_add (pe_op op_mod (pe_callTy call_int1 (by rfl) G.int_ (by decide +kernel) (pa_cons (pe_op op_add (pv 4) (pe_op op_mul pe_int (pv 5))) pa_nil)) pe_int) (pe_op op_mul pe_int (pv 1))) pe_int) pe_int) (pe_op op_mod (pe_callTy call_int1 (by rfl) G.int_ (by decide +kernel) (pa_cons (pe_op op_fdiv (pv 4) pe_int) pa_nil)) pe_int)))
      (pss_one (ps_ret (pe_op op_mod (pe_callTy call_int1 (by rfl) G.int_ (by decide +kernel) (pa_cons (pe_op op_mod (pe_op op_mul (pe_op op_mod (pv 7) pe_int) pe_int) pe_int) pa_nil)) (pv 2)))))))), ?_⟩
    refine ⟨_, rfl, by show 0 ≤ sizeLine; decide, fun p np => ?_⟩
    have s1 := same_upd np (o := .lst [])
    refine ⟨_, _, .lst (SqL.mono s1 hS) (dpInts K _ ns), .lst (sq upd_same) .nil, PySem.W.shaped_ints ns, rfl, _, rfl, ?_⟩
    rw [eqv_nil]
    by_cases he : ns = []
    case' pos =>
      subst he
      refine iteF ⟨by show 1 ≤ sizeLine; decide, fun b nb => ?_⟩
      have sH := s1.trans (same_upd nb (o := .lst [.int 7]))
      have hb : (upd (upd H p (.lst [])) b (.lst [.int 7])) b = some (.lst (([7] : List Int).map V.int)) := upd_same
      have hne : ([7] : List Int) ≠ [] := by decide
      have hl : ([7] : List Int).length ≤ 60 := by decide
      generalize upd (upd H p (.lst [])) b (.lst [.int 7]) = H1 at sH hb ⊢
      generalize ([7] : List Int) = row at hb hne hl
    case' neg =>
      rw [show (!ns.isEmpty) = true by cases ns with | nil => exact absurd rfl he | cons _ _ => rfl]
      refine iteT ⟨_, rfl, _, rfl, a, _, rfl, SqL.mono s1 hS, fun b nb => ?_⟩
      rw [cut60]
      have sH := s1.trans (same_upd nb (o := .lst ((ns.take 60).map V.int)))
      have hb : (upd (upd H p (.lst [])) b (.lst ((ns.take 60).map V.int))) b = some (.lst ((ns.take 60).map V.int)) := upd_same
      have hne : ns.take 60 ≠ [] := by
        cases ns with
        | nil => exact absurd rfl he
        | cons _ _ => simp
      have hl : (ns.take 60).length ≤ 60 := by rw [List.length_take]; omega
      generalize upd (upd H p (.lst [])) b (.lst ((ns.take 60).map V.int)) = H1 at sH hb ⊢
      generalize ns.take 60 = row at hb hne hl
    all_goals
      have hl0 : (0 : Int) < (row.length : Int) := by
        cases row with
        | nil => exact absurd rfl hne
        | cons _ _ => simp
      have hlm : (row.map V.int).length = row.length := List.length_map _
      have m1 := Int.emod_nonneg at_ (b := (row.length : Int)) (by omega)
      have m2 := Int.emod_lt_of_pos at_ hl0
      obtain ⟨m, hm1, hm2⟩ : ∃ m : Nat, at_ % (row.length : Int) = (m : Int) ∧ m < row.length := ⟨(at_ % (row.length : Int)).toNat, by omega, by omega⟩
      have hat : atI (row.map V.int) (at_ % (row.length : Int)) = some (.int row[m]) := by
        rw [hm1]
        exact atI_nat (by rw [List.getElem?_map, List.getElem?_eq_getElem hm2]; rfl)
      refine ⟨_, rfl, _, rfl, _, rfl, b, _, rfl, .inl (sq hb), ?_⟩
      rw [hlm]
      refine ⟨_, _, rfl, rfl, hl0, b, _, _, _, rfl, rfl, sq hb, hat, ?_⟩
      refine ⟨_, rfl, _, rfl, b, _, rfl, .inl (sq hb), ?_⟩
      rw [hlm]
      refine ⟨_, _, rfl, rfl, ⟨hl0, by omega⟩, ?_⟩
      generalize row[m] = cell
      refine ⟨_, _, rfl, ?_⟩
      refine ⟨_, rfl, _, _, rfl, rfl, ⟨by decide, by decide, by decide⟩, _, _, rfl, rfl, _, rfl, ?_⟩
      by_cases hc : (10 : Int) ^ (18 : Int).toNat ≤ cell
      · rw [decide_eq_true hc]
        refine iteT ⟨_, rfl, .inl ⟨_, rfl, _, _, rfl, rfl, ⟨by decide, by decide, by decide⟩, _, _, rfl, rfl, ?_, ?_⟩⟩
        · exact Int.pow_pos (by decide)
        have t1 := Int.emod_nonneg (at_ / (row.length : Int)) (b := 40) (by decide)
        have t2 := Int.emod_lt_of_pos (at_ / (row.length : Int)) (b := 40) (by decide)
        refine ⟨_, rfl, _, _, rfl, rfl, (by decide : (0 : Int) < 40), at_ / (row.length : Int) % 40, rfl, by omega, by omega, ?_⟩
        refine for_it (walk_range (lo := 0) (n := (at_ / (row.length : Int) % 40).toNat)) (fun i σ H' => ∃ c x6, H' = H1 ∧ σ = [some (.ref a), some (.int at_), some (.int many), some (.ref b), some (.int c), some (.int (at_ / (row.length : Int))), x6, none]) ⟨_, _, rfl, rfl⟩ (fun _ _ _ _ _ => True.intro) ?_ ?_
        · rintro i x σ H9 H' hi ⟨c, x6, rfl, rfl⟩ ⟨rfl, rfl⟩
          exact ⟨_, rfl, _, _, rfl, rfl, ⟨by decide, by decide⟩, _, _, rfl, rfl⟩
        · rintro σ H' ⟨c, x6, rfl, rfl⟩
          refine ⟨_, rfl, .inl ⟨_, rfl, _, _, rfl, rfl, (by decide : (0 : Int) < 97), _, rfl, _, _, rfl, rfl, hm, ?_⟩⟩
          exact hk _ _ sH (Int.emod_nonneg _ (by omega)) (Int.emod_lt_of_pos _ hm)
      · rw [decide_eq_false hc]
        refine iteF ?_
        refine ⟨_, rfl, _, rfl, _, _, rfl, rfl, .inl ⟨by decide, by decide⟩, _, _, rfl, rfl, .inl ⟨_, rfl, _, _, rfl, rfl, (by decide : (0 : Int) < 1000003), _, rfl, _, _, rfl, rfl, .inl ⟨by decide, by decide⟩, _, _, rfl, rfl, _, _, rfl, rfl, _, _, rfl, rfl, .inr ⟨by decide, by decide⟩, _, rfl, _, _, rfl, rfl, ⟨by decide, by decide⟩, .inl ⟨_, rfl, _, _, rfl, rfl, (by decide : (0 : Int) < 999983), _, _, rfl, rfl, ?_⟩⟩⟩
        refine ⟨_, rfl, _, _, rfl, rfl, (by decide : (0 : Int) < 2147483647), _, _, rfl, rfl, .inr ⟨by decide, by decide⟩, _, _, rfl, rfl, (by decide : (0 : Int) < 4294967291), .inl ⟨_, rfl, _, rfl, _, _, rfl, rfl, hm, ?_⟩⟩
        exact hk _ _ sH (Int.emod_nonneg _ (by omega)) (Int.emod_lt_of_pos _ hm)
end
end K1

namespace K1
open PySem PySem.Spec PyProof.Rows L2 Ls
/-! ### the law draws formulas -/
def AllN : Addr → Prop := fun _ => True
/-- a tuple of names -/
def NmT (H : Hp) (a : Addr) (ns : List Str) : Prop := H a = some (.tup (ns.map V.str)) ∧ ns.length ≤ 100 ∧ ∀ x ∈ ns, Df.isNameW x = true
theorem NmT.mono {H H' : Hp} (s : Same H H') {a : Addr} {ns : List Str} (h : NmT H a ns) : NmT H' a ns := ⟨s _ _ h.1, h.2⟩
def OkAL (a : Str × Int) : Prop := Df.OkA a ∧ a.2.natAbs ≤ 2
def spLAtom (K : PySem.W.Frag) : Sp := fun vs H Q _ => ∃ (a n : Addr) (zs : List Int) (ns : List Str) (at_ : Int), vs = [.ref a, .int at_, .ref n] ∧ Scr K H a zs ∧ NmT H n ns ∧ ∀ H' v x, Same H H' → Dt AllN H' v (atD x) → Df.OkA x → Q v H'
theorem name_le {x : Str} (h : Df.isNameW x = true) : x.length ≤ 8 := by
  unfold Df.isNameW at h
  simp only [Bool.and_eq_true, decide_eq_true_eq] at h
  exact h.2.1
section
variable {P : Program} {w : World} {K : PySem.W.Frag} {mg : Str → Option Value} {base : Heap} {f W Pt C CE : Addr} {fd : FuncData} {k : Nat}
theorem sc_u_law_atom : FnScope ["script", "at", "names", "ends"] ["script", "at", "names"] (defScope s_u_law_atom) := ⟨rfl, rfl, rfl, by decide +kernel, rfl, by decide +kernel, by decide +kernel⟩
theorem ok_law_atom (F : FnP K "_law_atom" s_u_law_atom [] f fd) (G : Facts mg) (C_u_law_draw : Cal P w K mg base 1 "_law_draw" (spDraw K) []) : FnOk P w K mg base CX0 2 f fd ["script", "at", "names"] (spLAtom K) := by
  refine F.ok sc_u_law_atom (fun vs H Q E h => ?_) (fun cdv A outer s H vs Q E hr h => ?_)
  · obtain ⟨a, n, zs, ns, at_, rfl, _⟩ := h
    rfl
  · obtain ⟨a, n, zs, ns, at_, rfl, hS, hn, hk⟩ := h
    have hu := hu_of hr
    refine ⟨_, PSs.nox (pss_cons (ps_set (i := 3) sc_u_law_atom.nd rfl (.inl rfl) (pe_op kCatT (pe_callTy kTuple (by rfl) G.tuple_ (by decide +kernel) (pa_cons (pv 2) pa_nil)) (pe_tup (pa_cons pe_str pa_nil))))
      (pss_one (ps_ret (pe_tup (pa_cons (pe_ix (kIxT K) (pv 3) (pe_c C_u_law_draw hr (by decide) (by rfl) (pa_cons (pv 0) (pa_cons (pv 1) (pa_cons (pe_callB (kLen K) (by rfl) G.len_ PySem.boot_len (pa_cons (pv 3) pa_nil)) pa_nil)))) (fun _ _ => rfl)) (pa_cons (pe_op op_sub (pe_c C_u_law_draw hr (by decide) (by rfl) (pa_cons (pv 0) (pa_cons (pe_op op_add (pv 1) pe_int) (pa_cons pe_int pa_nil)))) pe_int) pa_nil)))))), ?_⟩
    refine ⟨_, rfl, n, _, rfl, .inr hn.1, fun H1 p s1 _ hp => ?_⟩
    refine ⟨by show 1 ≤ sizeLine; decide, fun t nt => ?_⟩
    have s2 := same_upd nt (o := .tup [V.str "0"])
    have hp2 := s2 _ _ hp
    have ht2 : upd H1 t (.tup [V.str "0"]) t = some (.tup [V.str "0"]) := upd_same
    generalize upd H1 t (.tup [V.str "0"]) = H2 at s2 hp2 ht2 ⊢
    have hnl := hn.2.1
    refine ⟨p, t, _, _, rfl, rfl, hp2, ht2, ?_, fun H3 e s3 _ he => ?_⟩
    · rw [List.length_map]
      exact Nat.le_trans (by simp only [List.length_cons, List.length_nil]; omega : _ ≤ 1001) (by decide)
    have sA := s1.trans (s2.trans s3)
    have he' : H3 e = some (.tup ((ns ++ [("0" : Str)]).map V.str)) := by rw [he]; simp
    have hlen : ((ns ++ [("0" : Str)]).map V.str).length = ns.length + 1 := by simp
    refine ⟨_, rfl, _, rfl, _, rfl, _, rfl, e, _, rfl, .inr (sqt he'), a, zs, at_, _, rfl, hS.mono sA, by rw [hlen]; omega, fun H4 d s4 d0 d1 => ?_⟩
    obtain ⟨j, rfl⟩ := Int.eq_ofNat_of_zero_le d0
    have hj : j < ns.length + 1 := by rw [hlen] at d1; omega
    have he4 := s4 _ _ he'
    obtain ⟨x, ex, hx⟩ : ∃ x, (ns ++ [("0" : Str)])[j]? = some x ∧ (x = "0" ∨ Df.isNameW x = true) := by
      have hj' : j < (ns ++ [("0" : Str)]).length := by simp; omega
      refine ⟨_, List.getElem?_eq_getElem hj', ?_⟩
      have := List.getElem_mem hj'
      rcases List.mem_append.mp this with h | h
      · exact .inr (hn.2.2 _ h)
      · exact .inl (List.mem_singleton.mp h)
    refine ⟨e, _, _, _, rfl, rfl, sqt he4, atI_nat (j := j) (v := V.str x) (by rw [List.getElem?_map, ex]; rfl), ?_⟩
    refine ⟨_, rfl, _, rfl, _, _, rfl, rfl, a, zs, _, 5, rfl, hS.mono (sA.trans s4), by decide, fun H5 d5 s5 d50 d51 => ?_⟩
    refine ⟨_, _, rfl, rfl, by show 2 ≤ sizeLine; decide, fun r nr => ?_⟩
    have s6 := same_upd nr (o := .tup [V.str x, V.int (d5 - 2)])
    refine hk _ _ (x, d5 - 2) (sA.trans (s4.trans (s5.trans s6))) ?_ ⟨hx, by omega⟩
    refine .tup ⟨True.intro, by show 2 ≤ 1000; decide⟩ upd_same (.cons (.str ?_) (.cons (.int _) .nil))
    rcases hx with rfl | h
    · exact zero_ok
    · exact name_len h
def spLCmp (K : PySem.W.Frag) : Sp := fun vs H Q _ => ∃ (a n : Addr) (zs : List Int) (ns : List Str) (at_ : Int), vs = [.ref a, .int at_, .ref n] ∧ Scr K H a zs ∧ NmT H n ns ∧ ∀ H' v op l r, Same H H' → Dt AllN H' v (fmD (.cmp op l r)) → op ∈ Df.opsL → Df.OkA l → Df.OkA r → Q v H'
theorem sc_u_law_compare : FnScope ["script", "at", "names", "operators"] ["script", "at", "names"] (defScope s_u_law_compare) := ⟨rfl, rfl, rfl, by decide +kernel, rfl, by decide +kernel, by decide +kernel⟩
theorem ok_law_compare (F : FnP K "_law_compare" s_u_law_compare [] f fd) (G : Facts mg) (C_u_law_draw : Cal P w K mg base 1 "_law_draw" (spDraw K) []) (C_u_law_atom : Cal P w K mg base 2 "_law_atom" (spLAtom K) []) : FnOk P w K mg base CX0 3 f fd ["script", "at", "names"] (spLCmp K) := by
  refine F.ok sc_u_law_compare (fun vs H Q E h => ?_) (fun cdv A outer s H vs Q E hr h => ?_)
  · obtain ⟨a, n, zs, ns, at_, rfl, _⟩ := h
    rfl
  · obtain ⟨a, n, zs, ns, at_, rfl, hS, hn, hk⟩ := h
    have hu := hu_of hr
    refine ⟨_, PSs.nox (pss_cons (ps_set (i := 3) sc_u_law_compare.nd rfl (.inl rfl) (pe_tup (pa_cons pe_str (pa_cons pe_str (pa_cons pe_str (pa_cons pe_str (pa_cons pe_str (pa_cons pe_str pa_nil))))))))
      (pss_one (ps_ret (pe_tup (pa_cons pe_str (pa_cons (pe_ix (kIxT K) (pv 3) (pe_c C_u_law_draw hr (by decide) (by rfl) (pa_cons (pv 0) (pa_cons (pv 1) (pa_cons pe_int pa_nil)))) (fun _ _ => rfl)) (pa_cons (pe_c C_u_law_atom hr (by decide) (by rfl) (pa_cons (pv 0) (pa_cons (pe_op op_add (pv 1) pe_int) (pa_cons (pv 2) pa_nil)))) (pa_cons (pe_c C_u_law_atom hr (by decide) (by rfl) (pa_cons (pv 0) (pa_cons (pe_op op_add (pv 1) pe_int) (pa_cons (pv 2) pa_nil)))) pa_nil)))))))), ?_⟩
    refine ⟨by show 6 ≤ sizeLine; decide, fun t nt => ?_⟩
    have s2 := same_upd nt (o := .tup ((["=", "!=", "<", "<=", ">", ">="] : List Str).map V.str))
    have ht2 : upd H t (.tup ((["=", "!=", "<", "<=", ">", ">="] : List Str).map V.str)) t = some (.tup ((["=", "!=", "<", "<=", ">", ">="] : List Str).map V.str)) := upd_same
    change gName 3 (.ref t) _ (upd H t (.tup ((["=", "!=", "<", "<=", ">", ">="] : List Str).map V.str))) _
    generalize upd H t (.tup ((["=", "!=", "<", "<=", ">", ">="] : List Str).map V.str)) = H2 at s2 ht2 ⊢
    refine ⟨_, rfl, _, rfl, _, rfl, a, zs, _, 6, rfl, hS.mono s2, by decide, fun H4 d s4 d0 d1 => ?_⟩
    obtain ⟨j, rfl⟩ := Int.eq_ofNat_of_zero_le d0
    have hj : j < 6 := by omega
    have hop : ∀ j < 6, ∃ x, (["=", "!=", "<", "<=", ">", ">="] : List Str)[j]? = some x ∧ x ∈ Df.opsL := by
      intro j hj
      have h2 : j < (["=", "!=", "<", "<=", ">", ">="] : List Str).length := hj
      refine ⟨_, List.getElem?_eq_getElem h2, ?_⟩
      have := List.getElem_mem h2
      have all : ∀ x ∈ (["=", "!=", "<", "<=", ">", ">="] : List Str), x ∈ Df.opsL := by decide +kernel
      exact all _ this
    obtain ⟨op, eop, ho⟩ := hop j hj
    refine ⟨t, _, _, _, rfl, rfl, sqt (s4 _ _ ht2), atI_nat (j := j) (v := V.str op) (by rw [List.getElem?_map, eop]; rfl), ?_⟩
    have sA := s2.trans s4
    refine ⟨_, rfl, _, rfl, _, _, rfl, rfl, _, rfl, a, n, zs, ns, _, rfl, hS.mono sA, hn.mono sA, fun H5 v5 l s5 hd5 ol => ?_⟩
    have sB := sA.trans s5
    refine ⟨_, rfl, _, rfl, _, _, rfl, rfl, _, rfl, a, n, zs, ns, _, rfl, hS.mono sB, hn.mono sB, fun H6 v6 r s6 hd6 or => ?_⟩
    refine ⟨by show 4 ≤ sizeLine; decide, fun q nq => ?_⟩
    have s7 := same_upd nq (o := .tup [V.str "compare", V.str op, v5, v6])
    refine hk _ _ op l r (sB.trans (s6.trans s7)) ?_ ho ol or
    rw [fmD]
    exact .tup ⟨True.intro, by show 4 ≤ 1000; decide⟩ upd_same (.cons (.str cmp_ok) (.cons (.str (op_ok ho)) (.cons (hd5.mono (s6.trans s7)) (.cons (hd6.mono s7) .nil))))
end
end K1

namespace Df
open PySem
/-! ### how great a drawn formula may be -/
def tl : Nat → Nat
  | 0 => 40
  | d + 1 => 3 * tl d + 20
def wl : Nat → Nat
  | 0 => 7
  | d + 1 => 3 * wl d + 4
def fl : Nat → Nat
  | 0 => 2
  | d + 1 => 3 * fl d
structure Siz (d : Nat) (f : Fm) : Prop where
  h : ht f ≤ d
  c : (fmC true f).length ≤ tl d
  w : (fmW true f).length ≤ wl d
  r : ∀ b, (freeL f b).length ≤ fl d
theorem tl_le (d : Nat) : 40 ≤ tl d := by
  induction d with
  | zero => exact Nat.le_refl _
  | succ d ih => simp only [tl]; omega
theorem wl_le (d : Nat) : 7 ≤ wl d := by
  induction d with
  | zero => exact Nat.le_refl _
  | succ d ih => simp only [wl]; omega
theorem fl_le (d : Nat) : 2 ≤ fl d := by
  induction d with
  | zero => exact Nat.le_refl _
  | succ d ih => simp only [fl]; omega
theorem name_le {x : Str} (h : isNameW x = true) : x.length ≤ 8 := by
  unfold isNameW at h
  simp only [Bool.and_eq_true, decide_eq_true_eq] at h
  exact h.2.1
theorem atomC_le {a : Str × Int} (h : OkA a) : (atomC a).length ≤ 14 := by
  obtain ⟨x, i⟩ := a
  have hs : ∀ n ≤ 9, (csS (numW n)).length ≤ 2 := by decide +kernel
  have hi : (csS (numW i.natAbs)).length ≤ 2 := hs _ h.i
  rcases h.x with e | e
  · have e : x = "0" := e
    simp only [atomC, if_pos e]
    split <;> simp <;> omega
  · have hx := name_le e
    have hxl : (csS x).length = x.length := (K1.csx_len x).symm
    have hx : x.length ≤ 8 := hx
    by_cases h0 : x = "0"
    · simp only [atomC, if_pos h0]
      split <;> simp <;> omega
    · simp only [atomC, if_neg h0]
      split
      · omega
      · simp only [List.length_append]
        split <;> simp <;> omega
theorem atomW_le (a : Str × Int) : (atomW a).length ≤ 3 := by
  obtain ⟨x, i⟩ := a
  simp only [atomW]
  repeat' split
  all_goals simp
theorem fmC_ft (f : Fm) : (fmC false f).length ≤ (fmC true f).length := by
  cases f <;> simp [fmC] <;> omega
theorem fmW_ft (f : Fm) : (fmW false f).length ≤ (fmW true f).length := by
  cases f <;> simp [fmW] <;> omega
theorem qC_le (k : Str) (f : Fm) : (qC k f).length ≤ (fmC false f).length + 2 := by
  cases f with
  | q k2 n g =>
    simp only [qC, fmC]
    split
    · rename_i e
      subst e
      simp only [List.length_cons, List.length_append, List.length_nil]
      simp
      omega
    · simp
  | cmp => simp [qC, fmC]
  | no => simp [qC, fmC]
  | row => simp [qC, fmC]
theorem qW_le (k : Str) (f : Fm) : (qW k f).length ≤ (fmW false f).length + 1 := by
  cases f with
  | q k2 n g =>
    simp only [qW, fmW]
    split
    · rename_i e
      subst e
      simp
    · simp
  | cmp => simp [qW, fmW]
  | no => simp [qW, fmW]
  | row => simp [qW, fmW]
theorem siz_cmp {op : Str} {l r : Str × Int} (ho : op ∈ opsL) (hl : OkA l) (hr : OkA r) (d : Nat) : Siz d (.cmp op l r) := by
  have c1 := atomC_le hl
  have c2 := atomC_le hr
  have w1 := atomW_le l
  have w2 := atomW_le r
  have hop : ∀ x ∈ opsL, (csS x).length ≤ 2 := by decide +kernel
  have hc := hop _ ho
  have := tl_le d
  have := wl_le d
  have := fl_le d
  refine ⟨Nat.zero_le _, ?_, ?_, fun b => ?_⟩
  · simp only [fmC, List.length_append, List.length_cons, List.length_nil]
    omega
  · simp only [fmW, List.length_append, List.length_cons, List.length_nil]
    omega
  · simp only [freeL]
    have := List.length_filter_le (frB b) [l.1, r.1]
    simp only [List.length_cons, List.length_nil] at this
    omega
theorem siz_no {d : Nat} {f : Fm} (h : Siz d f) : Siz (d + 1) (.no f) := by
  obtain ⟨a, c, w, r⟩ := h
  have hn : (csS "not ").length = 4 := by decide +kernel
  refine ⟨by simp only [ht]; omega, ?_, ?_, fun b => ?_⟩
  · simp only [fmC, List.length_append, tl]
    omega
  · simp only [fmW, List.length_cons, wl]
    omega
  · simp only [freeL, fl]
    have := r b
    omega
theorem siz_q {d : Nat} {k n : Str} {f : Fm} (hk : k = "all" ∨ k = "some") (hn : isNameW n = true) (h : Siz d f) : Siz (d + 1) (.q k n f) := by
  obtain ⟨a, c, w, r⟩ := h
  have hkl : (csS k).length ≤ 4 := by rcases hk with rfl | rfl <;> decide +kernel
  have hnl : (csS n).length = n.length := (K1.csx_len n).symm
  have hn8 : n.length ≤ 8 := name_le hn
  have q1 := qC_le k f
  have q2 := qW_le k f
  have f1 := fmC_ft f
  have f2 := fmW_ft f
  have := wl_le d
  refine ⟨by simp only [ht]; omega, ?_, ?_, fun b => ?_⟩
  · simp only [fmC, List.length_append, List.length_cons, List.length_nil, if_true, tl]
    omega
  · simp only [fmW, List.length_append, List.length_cons, List.length_nil, if_true, wl]
    omega
  · simp only [freeL, fl]
    have := r (b ++ [n])
    omega
theorem siz_row {d : Nat} {k : Str} {fs : List Fm} (hk : k = "or" ∨ k = "and") (h3 : fs.length = 2 ∨ fs.length = 3) (h : ∀ f ∈ fs, Siz d f) : Siz (d + 1) (.row k fs) := by
  have hkl : (csS k).length ≤ 3 := by rcases hk with rfl | rfl <;> decide +kernel
  have t1 := tl_le d
  have t2 := wl_le d
  rcases h3 with e | e
  · obtain ⟨f, g, rfl⟩ : ∃ f g, fs = [f, g] := by
      match fs, e with
      | [f, g], _ => exact ⟨f, g, rfl⟩
    obtain ⟨a1, c1, w1, r1⟩ := h f (by simp)
    obtain ⟨a2, c2, w2, r2⟩ := h g (by simp)
    refine ⟨by simp only [ht, hts]; omega, ?_, ?_, fun b => ?_⟩
    · simp only [fmC, fmsC, sepC, List.length_append, List.length_cons, List.length_nil, if_true, tl]
      omega
    · simp only [fmW, fmsW, sepW, List.length_append, List.length_cons, List.length_nil, if_true, wl]
      omega
    · simp only [freeL, freeLs, List.length_append, List.length_nil, fl]
      have := r1 b
      have := r2 b
      omega
  · obtain ⟨f, g, i, rfl⟩ : ∃ f g i, fs = [f, g, i] := by
      match fs, e with
      | [f, g, i], _ => exact ⟨f, g, i, rfl⟩
    obtain ⟨a1, c1, w1, r1⟩ := h f (by simp)
    obtain ⟨a2, c2, w2, r2⟩ := h g (by simp)
    obtain ⟨a3, c3, w3, r3⟩ := h i (by simp)
    refine ⟨by simp only [ht, hts]; omega, ?_, ?_, fun b => ?_⟩
    · simp only [fmC, fmsC, sepC, List.length_append, List.length_cons, List.length_nil, if_true, tl]
      omega
    · simp only [fmW, fmsW, sepW, List.length_append, List.length_cons, List.length_nil, if_true, wl]
      omega
    · simp only [freeL, freeLs, List.length_append, List.length_nil, fl]
      have := r1 b
      have := r2 b
      have := r3 b
      omega
end Df

namespace K1
open PySem PySem.Spec PyProof.Rows L2 Ls
theorem dpStrs (K : PySem.W.Frag) (H : Hp) : ∀ ns : List Str, DpAll K H (ns.map V.str) (ns.map PyData.str)
  | [] => .nil
  | n :: ns => .cons (.str n) (dpStrs K H ns)
theorem eqv_nilT (ns : List Str) : PyData.eqv (.tuple (ns.map PyData.str)) (.tuple []) = ns.isEmpty := by
  cases ns with
  | nil => simp [PyData.eqv, PyData.eqvAll]
  | cons n ns => simp [PyData.eqv, PyData.eqvAll]
theorem cut_head (x : V) (r : List V) : cutV (x :: r) none (some 1) = [x] := by
  unfold cutV
  have h1 : HT.sIx (x :: r).length (x :: r).length (some 1) = min 1 (x :: r).length := by
    have := HT.sIx_nat (x :: r).length (x :: r).length 1
    rw [show (some (1 : Int)) = some ((1 : Nat) : Int) from rfl, this]
  rw [h1, HT.sIx_none, List.drop_zero, Nat.sub_zero]
  simp
theorem cut_rest (x : V) (r : List V) : cutV (x :: r) (some 1) none = r := by
  unfold cutV
  have h1 : HT.sIx (x :: r).length 0 (some 1) = min 1 (x :: r).length := by
    have := HT.sIx_nat (x :: r).length 0 1
    rw [show (some (1 : Int)) = some ((1 : Nat) : Int) from rfl, this]
  rw [h1, HT.sIx_none]
  simp
def spTree (K : PySem.W.Frag) (d : Nat) : Sp := fun vs H Q _ => ∃ (a n q : Addr) (zs : List Int) (ns fs ar : List Str) (at_ : Int) (dep : Nat), vs = [.ref a, .int at_, .ref n, .ref q, .int dep] ∧ Scr K H a zs ∧ NmT H n ns ∧ NmT H q fs ∧ ns.length + fs.length ≤ 100 ∧ fs.Nodup ∧ (∀ x ∈ fs, x ∉ ar) ∧ dep < d ∧ ∀ H' v f, Same H H' → Dt AllN H' v (fmD f) → Df.OkF ar f → Df.Siz dep f → Q v H'
theorem canLay_strs : ∀ ns : List Str, (∀ x ∈ ns, Df.isNameW x = true) → PyData.canLayAll0 (ns.map PyData.str) = true
  | [], _ => rfl
  | x :: ns, h => by
    have h1 := (name_len (h x List.mem_cons_self)).2
    have h2 := canLay_strs ns fun y hy => h y (List.mem_cons_of_mem _ hy)
    simp only [List.map_cons, PyData.canLayAll0, PyData.canLay0, h1, h2]
    rfl
theorem depth_strs : ∀ ns : List Str, PyData.depthAll (ns.map PyData.str) = 0
  | [] => rfl
  | x :: ns => by simp [PyData.depthAll, PyData.depth, depth_strs ns]
theorem shaped_strsT {ns : List Str} (h : ∀ x ∈ ns, Df.isNameW x = true) : PySem.SeqAt.shaped (.tuple (ns.map PyData.str)) = true := by
  unfold PySem.SeqAt.shaped
  rw [Bool.and_eq_true]
  refine ⟨?_, decide_eq_true ?_⟩
  · simp only [PyData.canLay0]
    exact canLay_strs ns h
  · simp only [PyData.depth, depth_strs ns]
    omega
theorem first_test {K : PySem.W.Frag} {σ : L2.St} {H : Hp} {dep kd : Int} {q : Addr} {fs : List Str} (h3 : σ[3]? = some (some (V.ref q))) (h4 : σ[4]? = some (some (V.int dep))) (h5 : σ[5]? = some (some (V.int kd))) (hq : NmT H q fs) {R : Bool → Hp → Prop}
    (h : ∀ H2, Same H H2 → R (decide (dep = 0) || (decide (kd = 0) && fs.isEmpty)) H2) : tOr (tTest (tOp rEq (tVar 4) (tC (V.int 0)))) (tAnd (tTest (tOp rEq (tVar 5) (tC (V.int 0)))) (tTest (tOp (rEqD K) (tVar 3) (tTup tNil)))) σ H R := by
  refine ⟨_, h4, rfl, _, rfl, ?_⟩
  by_cases hd : dep = 0
  · rw [show decide (V.int dep = V.int 0) = true by simp [hd]]
    refine iteT ?_
    have := h H (Same.refl H)
    rw [show decide (dep = 0) = true by simp [hd]] at this
    exact this
  rw [show decide (V.int dep = V.int 0) = false by simp [hd]]
  have e1 : decide (dep = 0) = false := by simp [hd]
  refine iteF ⟨_, h5, rfl, _, rfl, ?_⟩
  by_cases hk : kd = 0
  · rw [show decide (V.int kd = V.int 0) = true by simp [hk]]
    refine iteT ⟨_, h3, by show 0 ≤ sizeLine; decide, fun t nt => ?_⟩
    have s1 := same_upd nt (o := .tup [])
    refine ⟨_, _, .tup (sqt (s1 _ _ hq.1)) (dpStrs K _ fs), .tup (sqt upd_same) .nil, shaped_strsT hq.2.2, rfl, _, rfl, ?_⟩
    rw [eqv_nilT]
    have := h _ s1
    rw [e1, show decide (kd = 0) = true by simp [hk]] at this
    exact this
  · rw [show decide (V.int kd = V.int 0) = false by simp [hk]]
    refine iteF ?_
    have := h H (Same.refl H)
    rw [e1, show decide (kd = 0) = false by simp [hk]] at this
    exact this
section
variable {P : Program} {w : World} {K : PySem.W.Frag} {mg : Str → Option Value} {base : Heap} {f W Pt C CE : Addr} {fd : FuncData} {k : Nat}
theorem sc_u_law_tree : FnScope ["script", "at", "names", "fresh", "depth", "kind", "parts", "turn", "body"] ["script", "at", "names", "fresh", "depth"] (defScope s_u_law_tree) := ⟨rfl, rfl, rfl, by decide +kernel, rfl, by decide +kernel, by decide +kernel⟩
theorem ok_law_tree0 (F : FnP K "_law_tree" s_u_law_tree [] f fd) {n : Nat} : FnOk P w K mg base CX0 (n + 1) f fd ["script", "at", "names", "fresh", "depth"] (spTree K 0) := by
  refine F.ok sc_u_law_tree (fun vs H Q E h => ?_) (fun cdv A outer s H vs Q E hr h => ?_)
  · obtain ⟨a, n, q, zs, ns, fs, ar, at_, dep, rfl, _⟩ := h
    rfl
  · obtain ⟨a, n, q, zs, ns, fs, ar, at_, dep, rfl, hS, hn, hq, hnf, hnd, har, hlt, _⟩ := h
    exact absurd hlt (Nat.not_lt_zero _)
theorem ok_law_treeS (d : Nat) (F : FnP K "_law_tree" s_u_law_tree [] f fd) (G : Facts mg) (C_u_law_draw : Cal P w K mg base 1 "_law_draw" (spDraw K) []) (C_u_law_compare : Cal P w K mg base 3 "_law_compare" (spLCmp K) []) (C_u_law_tree : Cal P w K mg base (d + 3) "_law_tree" (spTree K d) []) :
    FnOk P w K mg base CX0 (d + 3 + 1) f fd ["script", "at", "names", "fresh", "depth"] (spTree K (d + 1)) := by
  refine F.ok sc_u_law_tree (fun vs H Q E h => ?_) (fun cdv A outer s H vs Q E hr h => ?_)
  · obtain ⟨a, n, q, zs, ns, fs, ar, at_, dep, rfl, _⟩ := h
    rfl
  · obtain ⟨a, n, q, zs, ns, fs, ar, at_, dep, rfl, hS, hn, hq, hnf, hnd, har, hlt, hk⟩ := h
    have hu := hu_of hr
    refine ⟨_, PSs.nox (pss_cons (ps_set (i := 5) sc_u_law_tree.nd rfl (.inl rfl) (pe_c C_u_law_draw hr (by omega) (by rfl) (pa_cons (pv 0) (pa_cons (pv 1) (pa_cons pe_int pa_nil)))))
      (pss_cons (ps_if (PW.pt (pw_or (pt_cmpR op_eq (pv 4) pe_int (nomark _)) (pw_or1 (PW.pt (pw_and (pt_cmpR op_eq (pv 5) pe_int (nomark _)) (pw_and1 (pt_cmpR (kEqD K hr.units) (pv 3) (pe_tup pa_nil) (nomark _)))))))) (pss_one (ps_ret (pe_c C_u_law_compare hr (by omega) (by rfl) (pa_cons (pv 0) (pa_cons (pe_op op_add (pv 1) pe_int) (pa_cons (pv 2) pa_nil)))))) pss_nil)
      (pss_cons (ps_if (pt_cmpR op_eq (pv 5) pe_int (nomark _)) (pss_one (ps_ret (pe_tup (pa_cons pe_str (pa_cons (pe_c C_u_law_tree hr (by omega) (by rfl) (pa_cons (pv 0) (pa_cons (pe_op op_add (pv 1) pe_int) (pa_cons (pv 2) (pa_cons (pv 3) (pa_cons (pe_op op_sub (pv 4) pe_int) pa_nil)))))) pa_nil))))) pss_nil)
      (pss_cons (ps_if (pt_cmpR (kIn K) (pv 5) (pe_tup (pa_cons pe_int (pa_cons pe_int (pa_cons pe_int pa_nil)))) (by rfl)) (pss_cons (ps_setLc (i := 6) (own := [("turn", 7)]) (g := gName 7) (tt := tYes) rfl sc_u_law_tree.nd rfl rfl (sw_true rfl rfl rfl (by decide +kernel)) (pi_range1 (by rfl) G.range_ (pa_cons (pe_op op_add pe_int (pe_c C_u_law_draw hr (by omega) (by rfl) (pa_cons (pv 0) (pa_cons (pe_op op_add (pv 1) pe_int) (pa_cons pe_int pa_nil))))) pa_nil)) (blkOk_by (by kernel_rfl)) (fun _ _ _ _ _ => (pg_name (i := 7) sc_u_law_tree.nd rfl (by first | exact .inl rfl | exact .inr rfl))) (fun _ _ _ _ _ => pts_nil) (fun _ _ _ _ _ => (pe_c C_u_law_tree hr (by omega) (by rfl) (pa_cons (pv 0) (pa_cons (pe_op op_add (pe_op op_add (pv 1) (pe_op op_mul pe_int (pv 7))) pe_int) (pa_cons (pv 2) (pa_cons (pv 3) (pa_cons (pe_op op_sub (pv 4) pe_int) pa_nil))))))))
        (pss_one (ps_ret (pe_tup (pa_cons (pe_ifExp (pt_cmpR op_eq (pv 5) pe_int (nomark _)) pe_str pe_str) (pa_cons (pe_callTy kTuple (by rfl) G.tuple_ (by decide +kernel) (pa_cons (pv 6) pa_nil)) pa_nil)))))) pss_nil)
      (pss_cons (ps_if (pt_cmpR (kEqD K hr.units) (pv 3) (pe_tup pa_nil) (nomark _)) (pss_one (ps_ret (pe_c C_u_law_compare hr (by omega) (by rfl) (pa_cons (pv 0) (pa_cons (pe_op op_add (pv 1) pe_int) (pa_cons (pv 2) pa_nil)))))) pss_nil)
      (pss_cons (ps_set (i := 8) sc_u_law_tree.nd rfl (.inl rfl) (pe_c C_u_law_tree hr (by omega) (by rfl) (pa_cons (pv 0) (pa_cons (pe_op op_add (pv 1) pe_int) (pa_cons (pe_op kCatT (pe_callTy kTuple (by rfl) G.tuple_ (by decide +kernel) (pa_cons (pv 2) pa_nil)) (pe_slice kSlT (pv 3) po_none (po_some pe_int))) (pa_cons (pe_slice kSlT (pv 3) (po_some pe_int) po_none) (pa_cons (pe_op op_sub (pv 4) pe_int) pa_nil)))))))
      (pss_one (ps_ret (pe_tup (pa_cons (pe_ifExp (pt_cmpR (kIn K) (pv 5) (pe_tup (pa_cons pe_int (pa_cons pe_int pa_nil))) (by rfl)) pe_str pe_str) (pa_cons (pe_ix (kIxT K) (pv 3) pe_int (fun _ _ => rfl)) (pa_cons (pv 8) pa_nil)))))))))))), ?_⟩
    refine ⟨_, rfl, _, rfl, a, zs, _, 8, rfl, hS, by decide, fun H1 kd s1 k0 k1 => ?_⟩
    have hS1 := hS.mono s1
    have hn1 := hn.mono s1
    have hq1 := hq.mono s1
    have hcmp : ∀ H' at2, Same H H' → spLCmp K [.ref a, .int at2, .ref n] H' Q E0 := fun H' at2 s => ⟨a, n, zs, ns, at2, rfl, hS.mono s, hn.mono s, fun H2 v op l r s2 hv ho hl hr => hk H2 v _ (s.trans s2) hv (.cmp ho hl hr) (Df.siz_cmp ho hl hr dep)⟩
    refine first_test rfl rfl rfl hq1 fun H2 s2 => ?_
    have sB := s1.trans s2
    clear hS1 hn1 hq1
    by_cases c1 : (decide ((dep : Int) = 0) || (decide (kd = 0) && fs.isEmpty)) = true
    · rw [c1]
      exact iteT ⟨_, rfl, _, rfl, _, _, rfl, rfl, _, rfl, hcmp _ _ sB⟩
    have c1 : (decide ((dep : Int) = 0) || (decide (kd = 0) && fs.isEmpty)) = false := by simpa using c1
    rw [c1]
    obtain ⟨e, rfl⟩ : ∃ e, dep = e + 1 := by
      cases dep with
      | zero => simp at c1
      | succ e => exact ⟨e, rfl⟩
    have hsub : ((e + 1 : Nat) : Int) - 1 = (e : Nat) := by omega
    refine iteF ⟨_, rfl, rfl, _, rfl, ?_⟩
    have htree : ∀ (H' : Hp) (at2 : Int) (Q' : VK), Same H H' → (∀ H2 v g, Same H' H2 → Dt AllN H2 v (fmD g) → Df.OkF ar g → Df.Siz e g → Q' v H2) → spTree K d [.ref a, .int at2, .ref n, .ref q, .int (((e + 1 : Nat) : Int) - 1)] H' Q' E0 := fun H' at2 Q' s h =>
      ⟨a, n, q, zs, ns, fs, ar, at2, e, congrArg (fun z : Int => [V.ref a, V.int at2, V.ref n, V.ref q, V.int z]) hsub, hS.mono s, hn.mono s, hq.mono s, hnf, hnd, har, by omega, h⟩
    by_cases k1 : kd = 1
    · rw [show decide (V.int kd = V.int 1) = true by simp [k1]]
      refine iteT ⟨_, rfl, _, rfl, _, _, rfl, rfl, _, rfl, _, rfl, _, rfl, _, _, rfl, rfl, htree _ _ _ sB fun H3 v g s3 hv og sg => ?_⟩
      refine ⟨by show 2 ≤ sizeLine; decide, fun r nr => hk _ _ (.no g) (sB.trans (s3.trans (same_upd nr))) ?_ (.no og) (Df.siz_no sg)⟩
      rw [fmD]
      exact .tup ⟨True.intro, by show 2 ≤ 1000; decide⟩ upd_same (.cons (.str (kw_str _ (by simp))) (.cons (hv.mono (same_upd nr)) .nil))
    rw [show decide (V.int kd = V.int 1) = false by simp [k1]]
    refine iteF ⟨_, rfl, by show 3 ≤ sizeLine; decide, fun t nt => ⟨t, _, rfl, .inr (sqt upd_same), rfl, rfl, _, rfl, ?_⟩⟩
    have sC := sB.trans (same_upd nt (o := .tup [V.int 2, V.int 3, V.int 4]))
    generalize upd H2 t (.tup [V.int 2, V.int 3, V.int 4]) = H3 at sC ⊢
    cases hin : inV (V.int kd) [V.int 2, V.int 3, V.int 4] with
    | true =>
      refine iteT ⟨_, rfl, _, rfl, _, _, rfl, rfl, a, zs, _, 2, rfl, hS.mono sC, by decide, fun H4 d2 s4 d0 d1 => ?_⟩
      obtain ⟨m, hm, hm2⟩ : ∃ m : Nat, 2 + d2 = (m : Int) ∧ (m = 2 ∨ m = 3) := ⟨(2 + d2).toNat, by omega, by omega⟩
      refine ⟨_, _, rfl, rfl, 2 + d2, rfl, by omega, by omega, fun D hD => ?_⟩
      have sD := sC.trans s4
      rw [hm]
      refine lc_it (walk_range (lo := 0) (n := ((m : Nat) : Int).toNat)) (fun j H' => Same H4 H' ∧ ∃ (vs : List V) (gs : List Df.Fm), H' D = some (.lst vs) ∧ vs.length = j ∧ gs.length = j ∧ DtAll AllN H' vs (fmDs gs) ∧ ∀ g ∈ gs, Df.OkF ar g ∧ Df.Siz e g) ⟨same_upd hD, [], [], upd_same, rfl, rfl, by rw [fmDs]; exact .nil, fun g h => by cases h⟩ (fun _ _ _ _ => True.intro) ?_ ?_
      · rintro j y H9 H' hj ⟨s5, vs, gs, hvs, hvl, hgl, hdt, hok⟩ ⟨eH, rfl⟩
        obtain rfl : H' = H9 := eH
        have hj3 : j < 3 := by
          rw [Int.toNat_natCast] at hj
          omega
        refine ⟨rfl, _, rfl, _, rfl, _, rfl, _, _, rfl, rfl, .inl ⟨by decide, ?_⟩, _, _, rfl, rfl, _, _, rfl, rfl, _, rfl, _, rfl, _, rfl, _, _, rfl, rfl, htree _ _ _ (sD.trans s5) fun H6 v g s6 hv og sg => ?_⟩
        · decide
        · have kp : ∀ b xs, AllN b → H6 b = some (.tup xs) → (upd H6 D (.lst (vs ++ [v]))) b = some (.tup xs) := fun b xs _ eb => by
            rw [upd_ne fun z => by rw [z, s6 _ _ hvs] at eb; cases eb]
            exact eb
          refine ⟨vs, s6 _ _ hvs, szlt (by omega), same_mut (s5.trans s6) hD, vs ++ [v], gs ++ [g], upd_same, by simp [hvl], by simp [hgl], ?_, fun g' hg' => ?_⟩
          · have : fmDs (gs ++ [g]) = fmDs gs ++ [fmD g] := by rw [fmDs_map, fmDs_map]; simp
            rw [this]
            exact (fms_to kp gs (hdt.mono s6)).app (.cons (fm_to kp g hv) .nil)
          · rcases List.mem_append.mp hg' with h | h
            · exact hok _ h
            · rw [List.mem_singleton.mp h]
              exact ⟨og, sg⟩
      · rintro H5 ⟨s5, vs, gs, hvs, hvl, hgl, hdt, hok⟩
        rw [Int.toNat_natCast] at hvl hgl
        have fin : ∀ k : Str, (k = "or" ∨ k = "and") → ∀ H7 p, Same H5 H7 → H7 p = some (.tup vs) → ∀ r, H7 r = none → Q (.ref r) (upd H7 r (.tup [.str k, .ref p])) := fun k hk2 H7 p s7 hp r nr => by
          refine hk _ _ (.row k gs) (sD.trans (s5.trans (s7.trans (same_upd nr)))) ?_ (.row hk2 (by omega) fun g hg => (hok g hg).1) (Df.siz_row hk2 (by omega) fun g hg => (hok g hg).2)
          rw [fmD]
          refine .tup ⟨True.intro, by show 2 ≤ 1000; decide⟩ upd_same (.cons (.str (kw_str _ (by rcases hk2 with rfl | rfl <;> simp))) (.cons (.tup ⟨True.intro, ?_⟩ (same_upd nr _ _ hp) (hdt.mono (s7.trans (same_upd nr)))) .nil))
          rw [fmDs_map, List.length_map]
          omega
        refine ⟨_, rfl, rfl, _, rfl, ?_⟩
        by_cases h2 : kd = 2
        · rw [show decide (V.int kd = V.int 2) = true by simp [h2]]
          exact iteT ⟨_, rfl, D, _, rfl, .inl hvs, fun H7 p s7 _ hp => ⟨by show 2 ≤ sizeLine; decide, fun r nr => fin _ (.inl rfl) H7 p s7 hp r nr⟩⟩
        · rw [show decide (V.int kd = V.int 2) = false by simp [h2]]
          exact iteF ⟨_, rfl, D, _, rfl, .inl hvs, fun H7 p s7 _ hp => ⟨by show 2 ≤ sizeLine; decide, fun r nr => fin _ (.inr rfl) H7 p s7 hp r nr⟩⟩
    | false =>
      refine iteF ⟨_, rfl, by show 0 ≤ sizeLine; decide, fun t4 nt4 => ?_⟩
      have s4 := same_upd nt4 (o := .tup [])
      refine ⟨_, _, .tup (sqt ((sC.trans s4) _ _ hq.1)) (dpStrs K _ fs), .tup (sqt upd_same) .nil, shaped_strsT hq.2.2, rfl, _, rfl, ?_⟩
      rw [eqv_nilT]
      have sD := sC.trans s4
      generalize upd H3 t4 (.tup []) = H4 at s4 sD ⊢
      cases fs with
      | nil => exact iteT ⟨_, rfl, _, rfl, _, _, rfl, rfl, _, rfl, hcmp _ _ sD⟩
      | cons x fs =>
        have hq4 := hq.mono sD
        have hn4 := hn.mono sD
        refine iteF ⟨_, rfl, _, rfl, _, _, rfl, rfl, _, rfl, n, _, rfl, .inr hn4.1, fun H5 p5 s5 _ hp5 => ?_⟩
        refine ⟨_, rfl, _, rfl, q, _, rfl, (hq4.mono s5).1, fun H6 p6 s6 _ hp6 => ?_⟩
        rw [List.map_cons, cut_head] at hp6
        have hnl := hn.2.1
        refine ⟨p5, p6, _, _, rfl, rfl, s6 _ _ hp5, hp6, ?_, fun H7 p7 s7 _ hp7 => ?_⟩
        · rw [List.length_map]
          exact Nat.le_trans (by simp only [List.length_cons, List.length_nil]; omega : _ ≤ 1001) (by decide)
        refine ⟨_, rfl, _, rfl, q, _, rfl, (((hq4.mono s5).mono s6).mono s7).1, fun H8 p8 s8 _ hp8 => ?_⟩
        rw [List.map_cons, cut_rest] at hp8
        have sE := sD.trans (s5.trans (s6.trans (s7.trans s8)))
        have hp78 : H8 p7 = some (.tup ((ns ++ [x]).map V.str)) := by rw [s8 _ _ hp7]; simp
        have hxn := hq.2.2 x List.mem_cons_self
        have hxa := har x List.mem_cons_self
        have hql := hq.2.1
        simp only [List.length_cons] at hql hnf
        refine ⟨_, rfl, _, _, rfl, rfl, a, p7, p8, zs, ns ++ [x], fs, ar ++ [x], _, e, congrArg (fun z : Int => [V.ref a, V.int (at_ + 17), V.ref p7, V.ref p8, V.int z]) hsub, hS.mono sE, ⟨hp78, by rw [List.length_append]; simp only [List.length_cons, List.length_nil]; omega, ?_⟩, ⟨hp8, by omega, fun y hy => hq.2.2 y (List.mem_cons_of_mem _ hy)⟩, by rw [List.length_append]; simp only [List.length_cons, List.length_nil]; omega, (List.nodup_cons.mp hnd).2, ?_, by omega, fun H9 v g s9 hv og sg => ?_⟩
        · intro y hy
          rcases List.mem_append.mp hy with h | h
          · exact hn.2.2 _ h
          · rw [List.mem_singleton.mp h]
            exact hxn
        · intro y hy hm
          rcases List.mem_append.mp hm with h | h
          · exact har _ (List.mem_cons_of_mem _ hy) h
          · rw [List.mem_singleton.mp h] at hy
            exact (List.nodup_cons.mp hnd).1 hy
        have sF := sE.trans s9
        have hqF := hq.mono sF
        refine ⟨_, rfl, by show 2 ≤ sizeLine; decide, fun t5 nt5 => ⟨t5, _, rfl, .inr (sqt upd_same), rfl, rfl, _, rfl, ?_⟩⟩
        have s10 := same_upd nt5 (o := .tup [V.int 0, V.int 5])
        generalize upd H9 t5 (.tup [V.int 0, V.int 5]) = H10 at s10 ⊢
        have hvF := hv.mono s10
        have hqG := hqF.mono s10
        have sG := sF.trans s10
        have fin : ∀ k : Str, (k = "all" ∨ k = "some") → ∀ r, H10 r = none → Q (.ref r) (upd H10 r (.tup [.str k, .str x, v])) := fun k hk2 r nr => by
          refine hk _ _ (.q k x g) (sG.trans (same_upd nr)) ?_ (.q hk2 hxn hxa og) (Df.siz_q hk2 hxn sg)
          rw [fmD]
          exact .tup ⟨True.intro, by show 3 ≤ 1000; decide⟩ upd_same (.cons (.str (kw_str _ (by rcases hk2 with rfl | rfl <;> simp))) (.cons (.str (name_len hxn)) (.cons (hvF.mono (same_upd nr)) .nil)))
        cases inV (V.int kd) [V.int 0, V.int 5] with
        | true => exact iteT ⟨_, rfl, q, _, _, _, rfl, rfl, sqt hqG.1, atI_nat (j := 0) rfl, _, rfl, by show 3 ≤ sizeLine; decide, fun r nr => fin _ (.inl rfl) r nr⟩
        | false => exact iteF ⟨_, rfl, q, _, _, _, rfl, rfl, sqt hqG.1, atI_nat (j := 0) rfl, _, rfl, by show 3 ≤ sizeLine; decide, fun r nr => fin _ (.inr rfl) r nr⟩
end
end K1

namespace K1
open PySem PySem.Spec PyProof.Rows L2 Ls
/-- what the walk asks of BadText CE, of LoopshedsError CL -/
structure ErrT (K : PySem.W.Frag) (CE CL : Addr) : Prop where
  ec : ExcC K CE
  eE : PySem.W.exmOne K (.ref CE) (.ref CE) = some true
  kL : PySem.W.kitOne K (.ref CE) (.ref CL) = some true
/-- is the text refused at this column? -/
def refB (d : Nat) (x : Str) (col : Int) : Bool := match readT d x with
  | some (.inr n) => decide ((n : Int) = col)
  | _ => false
def spLRef (Pt : Addr) (d : Nat) : Sp := fun vs H Q _ => ∃ (x : Str) (col : Int), vs = [.str x, .int col] ∧ TxOk x ∧ GxR.TabG H Pt ∧ readT d x ≠ none ∧ ∀ H', Kt Pt H H' → GxR.TabG H' Pt → Q (.bl (refB d x col)) H'
section
variable {P : Program} {w : World} {K : PySem.W.Frag} {mg : Str → Option Value} {base : Heap} {f Pt CE CL : Addr} {fd : FuncData} {k : Nat}
theorem sc_u_law_refused : FnScope ["text", "column", "error"] ["text", "column"] (defScope s_u_law_refused) := ⟨rfl, rfl, rfl, by decide +kernel, rfl, by decide +kernel, by decide +kernel⟩
theorem ok_law_refused (d : Nat) (F : FnP K "_law_refused" s_u_law_refused [] f fd) (G : Facts mg) (BT : ExcS2 P w K mg base "BadText" CE "line" "column") (ET : ErrT K CE CL) (hCL : mg "LoopshedsError" = some (.ref CL)) (C_read_formula : CalX P w K mg base (4 * d + 10) "read_formula" (spRead CE Pt d) []) :
    FnOk P w K mg base CX0 (4 * d + 11) f fd ["text", "column"] (spLRef Pt d) := by
  refine F.ok sc_u_law_refused (fun vs H Q E h => ?_) (fun cdv A outer s H vs Q E hr h => ?_)
  · obtain ⟨x, col, rfl, _⟩ := h
    rfl
  · obtain ⟨x, col, rfl, hx, hT, hne, hk⟩ := h
    have hu := hu_of hr
    refine ⟨_, PSs.nox (pss_one (ps_try_as (i := 2) rfl rfl sc_u_law_refused.nd rfl rfl ⟨rfl, by decide, .inl BT.gC⟩ takes0 (fun W pn xe tk _ => (pss_cons (ps_expr (pe_cxS C_read_formula tk hr (by omega) (by rfl) (pa_cons (pv 0) pa_nil)))
        (pss_one (ps_ret pe_bl)))) (fun a oe cls d pn hz hd => (pss_one (ps_ret (pe_and (pe_cmpR op_eq (pe_xf BT.xf BT.no1 hz hd (pv 2)) pe_int (nomark _)) (pe_and (pe_cmpR op_eq (pe_xf BT.xf BT.no2 hz hd (pv 2)) (pv 1) (nomark _)) (pe_one (pe_callB (call_isD hz hd) (by rfl) G.isinstance_ (by decide +kernel) (pa_cons (pv 2) (pa_cons (pe_glob (v := .ref CL) (by rfl) hCL rfl) pa_nil))))))))))), ?_⟩
    refine ⟨_, rfl, x, rfl, hx, hT, hne, fun n hn H' dd s' hT' hdd => ⟨true, ET.eE, fun _ e he => ?_, fun z => nomatch z⟩, fun g hg H' v s' hT' hv => ?_⟩
    · have hq : refB d x col = decide ((n : Int) = col) := by unfold refB; rw [hn]
      have hkq := hk H' s' hT'
      rw [hq] at hkq
      refine ⟨_, rfl, rfl, rfl, dd, _, _, rfl, hdd, rfl, rfl, ?_⟩
      rw [show decide (V.int (1 : Int) = V.int 1) = true from decide_eq_true rfl]
      refine ⟨_, rfl, iteT ⟨_, rfl, rfl, rfl, dd, _, _, rfl, hdd, rfl, _, rfl, rfl, ?_⟩⟩
      by_cases hc : (n : Int) = col
      · rw [show decide (V.int (n : Int) = V.int col) = true by simp [hc]]
        refine ⟨_, rfl, iteT ⟨_, rfl, .ref CL, .ref CL, true, CE, dd, _, rfl, rfl, ET.ec, rfl, hdd, fun u r => r, ET.kL, ?_⟩⟩
        rw [decide_eq_true hc] at hkq
        exact hkq
      · rw [show decide (V.int (n : Int) = V.int col) = false by simp [hc]]
        refine ⟨_, rfl, iteF ?_⟩
        rw [decide_eq_false hc] at hkq
        exact hkq
    · have hq : refB d x col = false := by unfold refB; rw [hg]
      have hkq := hk H' s' hT'
      rw [hq] at hkq
      exact hkq
end
end K1

namespace K1
open PySem PySem.Spec PyProof.Rows L2 Ls
/-- the texts known to be bad, with the columns of their refusals -/
def kn (x : Str) (c : Int) : Str × Int := (x, c)
def knownL : List (Str × Int) := [kn "" 1, kn "i" 2, kn "i =" 4, kn "all : i = i" 5, kn "all i i: i = 0" 7, kn "all i: some i: i = 0" 13, kn "i = 00" 5, kn "i = 12345" 5, kn "abcdefghi = 0" 1, kn "i = j k = 0" 7, kn "not" 4, kn "(i = 0" 7, kn "i = 0)" 6, kn "i < = 0" 5, kn "i =< 0" 4, kn "i = 0 and" 10, kn "and = 0" 1, kn "i = 0 or or i = 1" 10, kn "i + j = 0" 5, kn "3 + i = 0" 3, kn "I = 0" 1, kn "i = 0;" 6, kn "i = 0\n" 6, kn "all i j = 0" 9, kn "i ! j" 3, kn "   " 4, kn "some: i = 0" 5, kn "i = 0 not i = 1" 7, kn "all i: i = 0 all j: j = 0" 14, kn "i = 0 and #" 11, kn "((i = 0) or i = 1" 18, kn "i = --1" 6, kn "i - -1 = 0" 5, kn "alli: i = 0" 5]
def knD (p : Str × Int) : PyData := .tuple [.str p.1, .int p.2]
def knownD : List PyData := knownL.map knD
def spKnown : Sp := fun vs H Q _ => ∃ turn : Int, vs = [.int turn] ∧ ∀ H' t x c, Same H H' → H' t = some (.tup [.str x, .int c]) → (x, c) ∈ knownL → Q (.ref t) H'
section
variable {P : Program} {w : World} {K : PySem.W.Frag} {mg : Str → Option Value} {base : Heap} {f Pt CE CL : Addr} {fd : FuncData} {k : Nat}
theorem sc_u_law_known : FnScope ["turn", "rows"] ["turn"] (defScope s_u_law_known) := ⟨rfl, rfl, rfl, by decide +kernel, rfl, by decide +kernel, by decide +kernel⟩
theorem ok_law_known (F : FnP K "_law_known" s_u_law_known [] f fd) (G : Facts mg) : FnOk P w K mg base CX0 1 f fd ["turn"] spKnown := by
  refine F.ok sc_u_law_known (fun vs H Q E h => ?_) (fun cdv A outer s H vs Q E hr h => ?_)
  · obtain ⟨turn, rfl, _⟩ := h
    rfl
  · obtain ⟨turn, rfl, hk⟩ := h
    have hu := hu_of hr
    refine ⟨_, PSs.nox (pss_cons (ps_set (i := 1) sc_u_law_known.nd rfl (.inl rfl) (de_cut (dN 0 AllN [] (de_tup (das_cons (de_tup (das_cons (de_str (by decide +kernel)) (das_cons de_int das_nil)) (by decide)) (das_cons (de_tup (das_cons (de_str (by decide +kernel)) (das_cons de_int das_nil)) (by decide)) (das_cons (de_tup (das_cons (de_str (by decide +kernel)) (das_cons de_int das_nil)) (by decide)) (das_cons (de_tup (das_cons (de_str (by decide +kernel)) (das_cons de_int das_nil)) (by decide)) (das_cons (de_tup (das_cons (de_str (by decide +kernel)) (das_cons de_int das_nil)) (by decide)) (das_cons (de_tup (das_cons (de_str (by decide +kernel)) (das_cons de_int das_nil)) (by decide)) (das_cons (de_tup (das_cons (de_str (by decide +kernel)) (das_cons de_int das_nil)) (by decide)) (das_cons (de_tup (das_cons (de_str (by decide +kernel)) (das_cons de_int das_nil)) (by decide)) (das_cons (de_tup (das_cons (de_str (by decide +kernel)) (das_cons de_int das_nil)) (by decide)) (das_cons (de_tup (das_cons (de_str (by decide +kernel)) (das_cons de_int das_nil)) (by decide)) (das_cons (de_tup (das_cons (de_str (by decide +kernel)) (das_cons de_int das_nil)) (by decide)) (das_cons (de_tup (das_cons (de_str (by decide +kernel)) (das_cons de_int das_nil)) (by decide)) (das_cons (de_tup (das_cons (de_str (by decide +kernel)) (das_cons de_int das_nil)) (by decide)) (das_cons (de_tup (das_cons (de_str (by decide +kernel)) (das_cons de_int das_nil)) (by decide)) (das_cons (de_tup (das_cons (de_str (by decide +kernel)) (das_cons de_int das_nil)) (by decide)) (das_cons (de_tup (das_cons (de_str (by decide +kernel)) (das_cons de_int das_nil)) (by decide)) (das_cons (de_tup (das_cons (de_str (by decide +kernel)) (das_cons de_int das_nil)) (by decide)) (das_cons (de_tup (das_cons (de_str (by decide +kernel)) (das_cons de_int das_nil)) (by decide)) (das_cons (de_tup (das_cons (de_str (by decide +kernel)) (das_cons de_int das_nil)) (by decide)) (das_cons (de_tup (das_cons (de_str (by decide +kernel)) (das_cons de_int das_nil)) (by decide)) (das_cons (de_tup (das_cons (de_str (by decide +kernel)) (das_cons de_int das_nil)) (by decide)) (das_cons (de_tup (das_cons (de_str (by decide +kernel)) (das_cons de_int das_nil)) (by decide)) (das_cons (de_tup (das_cons (de_str (by decide +kernel)) (das_cons de_int das_nil)) (by decide)) (das_cons (de_tup (das_cons (de_str (by decide +kernel)) (das_cons de_int das_nil)) (by decide)) (das_cons (de_tup (das_cons (de_str (by decide +kernel)) (das_cons de_int das_nil)) (by decide)) (das_cons (de_tup (das_cons (de_str (by decide +kernel)) (das_cons de_int das_nil)) (by decide)) (das_cons (de_tup (das_cons (de_str (by decide +kernel)) (das_cons de_int das_nil)) (by decide)) (das_cons (de_tup (das_cons (de_str (by decide +kernel)) (das_cons de_int das_nil)) (by decide)) (das_cons (de_tup (das_cons (de_str (by decide +kernel)) (das_cons de_int das_nil)) (by decide)) (das_cons (de_tup (das_cons (de_str (by decide +kernel)) (das_cons de_int das_nil)) (by decide)) (das_cons (de_tup (das_cons (de_str (by decide +kernel)) (das_cons de_int das_nil)) (by decide)) (das_cons (de_tup (das_cons (de_str (by decide +kernel)) (das_cons de_int das_nil)) (by decide)) (das_cons (de_tup (das_cons (de_str (by decide +kernel)) (das_cons de_int das_nil)) (by decide)) (das_cons (de_tup (das_cons (de_str (by decide +kernel)) (das_cons de_int das_nil)) (by decide)) das_nil)))))))))))))))))))))))))))))))))) (by decide))) (show _ = PyData.tuple knownD from rfl)))
      (pss_one (ps_ret (pe_ix (kIxT K) (pv 1) (pe_op op_mod (pv 0) (pe_callB (kLen K) (by rfl) G.len_ PySem.boot_len (pa_cons (pv 1) pa_nil))) (fun _ _ => rfl))))), ?_⟩
    refine ⟨⟨fun p hp => by (first | cases hp | exact absurd hp (by simp)), fun _ _ => True.intro, Nat.zero_le _⟩, fun v H1 s1 hd => ?_⟩
    obtain ⟨t, xs, rfl, nt, lt, et, hd⟩ := Dt.tup_ hd
    have hl := hd.len
    have hkl : knownD.length = 34 := rfl
    rw [hkl] at hl
    refine ⟨_, rfl, _, rfl, _, rfl, t, _, rfl, .inr (sqt et), ?_⟩
    have h0 := Int.emod_nonneg turn (b := (xs.length : Int)) (by omega)
    have h1 := Int.emod_lt_of_pos turn (b := (xs.length : Int)) (by omega)
    obtain ⟨j, hj⟩ := Int.eq_ofNat_of_zero_le h0
    have hj34 : j < 34 := by omega
    obtain ⟨p, hp⟩ : ∃ p, knownL[j]? = some p := ⟨_, List.getElem?_eq_getElem (show j < knownL.length from hj34)⟩
    obtain ⟨v, hv, hvd⟩ := hd.get (i := j) (d := knD p) (by show (knownL.map knD)[j]? = _; rw [List.getElem?_map, hp]; rfl)
    refine ⟨_, _, rfl, rfl, by omega, ?_⟩
    have hm : p ∈ knownL := List.mem_of_getElem? hp
    obtain ⟨x, c⟩ := p
    unfold knD at hvd
    obtain ⟨t2, ys, rfl, n2, l2, e2, hds⟩ := Dt.tup_ hvd
    have ey : ys = [.str x, .int c] := by
      cases hds with
      | cons a1 a2 => cases a2 with
        | cons a3 a4 =>
          cases a4
          cases a1
          cases a3
          rfl
    subst ey
    refine ⟨t, _, _, _, rfl, rfl, sqt et, ?_, hk H1 t2 x c s1 e2 hm⟩
    show atI xs (turn % (xs.length : Int)) = _
    rw [hj]
    exact atI_nat hv
end
end K1

namespace K1
open PySem PySem.Spec PyProof.Rows L2 Ls
/-! ### the known texts are refused where the law says -/
theorem known_all : (knownL.all fun p => refB 30 p.1 p.2) = true := by decide +kernel
theorem known_some : (knownL.all fun p => (readT 30 p.1).isSome) = true := by decide +kernel
theorem known_ok {x : Str} {c : Int} (h : (x, c) ∈ knownL) : refB 30 x c = true ∧ readT 30 x ≠ none := by
  refine ⟨List.all_eq_true.mp known_all _ h, fun e => ?_⟩
  have := List.all_eq_true.mp known_some _ h
  simp only [e] at this
  cases this
/-- a text may be read: told by a test -/
def wokB (ps : List (Str × Nat)) : Bool := (match ps.getLast? with
    | some q => decide (q.1 = ("" : Str))
    | none => false) && (ps.dropLast.all fun q => !decide (q.1 = ("" : Str))) && (ps.all fun q => (csx q.1).all fun c => decide (c < 128)) && (ps.all fun q => !Df.isNumW q.1 || decide (q.1.length = 1)) && (ps.all fun q => decide (q.1.length ≤ 100000)) && decide (ps.length ≤ 990)
theorem wok_of {ps : List (Str × Nat)} (h : wokB ps = true) : WOk ps := by
  unfold wokB at h
  simp only [Bool.and_eq_true] at h
  obtain ⟨⟨⟨⟨⟨h1, h2⟩, h3⟩, h4⟩, h5⟩, h6⟩ := h
  have hlast : ∃ n, ps.getLast? = some (("" : Str), n) := by
    cases e : ps.getLast? with
    | none => rw [e] at h1; cases h1
    | some q =>
      rw [e] at h1
      obtain ⟨w, n⟩ := q
      have h1 : w = ("" : Str) := of_decide_eq_true h1
      rw [h1]
      exact ⟨n, rfl⟩
  obtain ⟨n, hn⟩ := hlast
  have hd : ps = ps.dropLast ++ [(("" : Str), n)] := by
    have hne : ps ≠ [] := fun e => by rw [e] at hn; cases hn
    have := List.dropLast_concat_getLast hne
    rw [List.getLast?_eq_some_getLast hne] at hn
    rw [Option.some.inj hn] at this
    exact this.symm
  refine ⟨⟨ps.dropLast, n, hd, fun q hq => ?_⟩, fun q hq c hc => ?_, fun q hq hnum => ?_, fun q hq => ?_, of_decide_eq_true h6⟩
  · have := List.all_eq_true.mp h2 q hq
    simpa using this
  · exact of_decide_eq_true (List.all_eq_true.mp (List.all_eq_true.mp h3 q hq) c hc)
  · have := List.all_eq_true.mp h4 q hq
    rw [hnum] at this
    simpa using this
  · exact of_decide_eq_true (List.all_eq_true.mp h5 q hq)
def txB (x : Str) : Bool := decide (x.length ≤ 100000) && (match lexS (csx x) 0 with
  | .inl ps => wokB (wordsT x ps)
  | .inr _ => true)
theorem tx_of {x : Str} (h : txB x = true) : TxOk x := by
  unfold txB at h
  rw [Bool.and_eq_true] at h
  refine ⟨of_decide_eq_true h.1, fun ps e => wok_of ?_⟩
  have := h.2
  rw [e] at this
  exact this
theorem known_tx : (knownL.all fun p => txB p.1) = true := by decide +kernel
theorem known_read {x : Str} {c : Int} (h : (x, c) ∈ knownL) : TxOk x := tx_of (List.all_eq_true.mp known_tx _ h)
end K1

namespace Df
open PySem
/-! ### the signs of a formula are good -/
def gd0 (c : Nat) : Bool := c == 32 || (oneSign c || (isSmall c || isFig c))
theorem gd_cons {c : Nat} {b : List Nat} (h : gd0 c = true) (hb : gdB b = true) : gdB (c :: b) = true := by
  unfold gdB
  rw [Bool.and_eq_true]
  refine ⟨?_, hb⟩
  unfold gd0 at h
  simp only [Bool.or_eq_true] at h ⊢
  rcases h with h | h | h | h
  · exact .inl h
  · exact .inr (.inl h)
  · exact .inr (.inr (.inl h))
  · exact .inr (.inr (.inr (.inl h)))
theorem gd_ap {b : List Nat} (hb : gdB b = true) : ∀ {a : List Nat}, (∀ c ∈ a, gd0 c = true) → gdB (a ++ b) = true
  | [], _ => hb
  | c :: a, h => gd_cons (h c List.mem_cons_self) (gd_ap hb fun c hc => h c (List.mem_cons_of_mem _ hc))
theorem gd_name {n : Str} (h : isNameW n = true) : ∀ c ∈ csS n, gd0 c = true := by
  unfold isNameW at h
  simp only [Bool.and_eq_true] at h
  intro c hc
  have := List.all_eq_true.mp h.2.2.1 c hc
  simp [gd0, this]
theorem gd_num : ∀ n ≤ 9, ∀ c ∈ csS (numW n), gd0 c = true := by decide +kernel
theorem gd_atom {a : Str × Int} (h : OkA a) : ∀ c ∈ atomC a, gd0 c = true := by
  obtain ⟨x, i⟩ := a
  have hi : ∀ c ∈ csS (numW i.natAbs), gd0 c = true := gd_num _ h.i
  have h45 : gd0 45 = true := by decide +kernel
  have hp : ∀ c ∈ ([32, 43, 32] : List Nat), gd0 c = true := by decide +kernel
  have hm : ∀ c ∈ ([32, 45, 32] : List Nat), gd0 c = true := by decide +kernel
  by_cases h0 : x = "0"
  · simp only [atomC, if_pos h0]
    split
    · intro c hc
      rcases List.mem_cons.mp hc with rfl | hc
      · exact h45
      · exact hi c hc
    · exact hi
  · have hx : isNameW x = true := by
      rcases h.x with e | e
      · exact absurd e h0
      · exact e
    simp only [atomC, if_neg h0]
    split
    · exact gd_name hx
    · intro c hc
      rcases List.mem_append.mp hc with hc | hc
      · rcases List.mem_append.mp hc with hc | hc
        · exact gd_name hx c hc
        · split at hc
          · exact hp c hc
          · exact hm c hc
      · exact hi c hc
theorem gd_op {op : Str} (h : op ∈ opsL) {t : List Nat} (ht : gdB t = true) : gdB ((32 :: csS op ++ [32]) ++ t) = true := by
  have h32 : gdB (32 :: t) = true := gd_cons (by decide +kernel) ht
  by_cases e : op = "!="
  · subst e
    have : (32 :: csS ("!=" : Str) ++ [32]) ++ t = 32 :: 33 :: 61 :: 32 :: t := rfl
    rw [this]
    refine gd_cons (by decide +kernel) ?_
    have h61 : gdB (61 :: 32 :: t) = true := gd_cons (by decide +kernel) h32
    unfold gdB
    rw [Bool.and_eq_true]
    refine ⟨?_, h61⟩
    show ((33 : Nat) == 32 || (oneSign 33 || (isSmall 33 || (isFig 33 || (33 : Nat) == 33 && (61 : Nat) == 61)))) = true
    decide +kernel
  · have hs : ∀ x ∈ opsL, x = "!=" ∨ ∀ c ∈ (32 :: csS x ++ [32]), gd0 c = true := by decide +kernel
    rcases hs op h with h | h
    · exact absurd h e
    · exact gd_ap ht h
theorem gd_row {k : Str} (hk : ∀ c ∈ (32 :: csS k ++ [32]), gd0 c = true) {t : List Nat} (ht : gdB t = true) : ∀ fs : List Fm, (∀ f ∈ fs, ∀ t, gdB t = true → gdB (fmC true f ++ t) = true) → gdB (sepC k (fmsC fs) ++ t) = true
  | [], _ => by simpa [fmsC, sepC] using ht
  | [f], h => by simpa [fmsC, sepC] using h f (by simp) t ht
  | f :: g :: fs, h => by
    have ih := gd_row hk ht (g :: fs) fun f hf => h f (List.mem_cons_of_mem _ hf)
    have e : sepC k (fmsC (f :: g :: fs)) ++ t = fmC true f ++ ((32 :: csS k ++ [32]) ++ (sepC k (fmsC (g :: fs)) ++ t)) := by simp [fmsC, sepC]
    rw [e]
    exact h f (by simp) _ (gd_ap ih hk)
theorem gd_all {ar : List Str} {f : Fm} (h : OkF ar f) : (∀ b t, gdB t = true → gdB (fmC b f ++ t) = true) ∧ ∀ k t, gdB t = true → gdB (qC k f ++ t) = true := by
  have hb : ∀ {t : List Nat}, gdB t = true → gdB (58 :: 32 :: t) = true := fun h => gd_cons (by decide +kernel) (gd_cons (by decide +kernel) h)
  have g40 : gd0 40 = true := by decide +kernel
  have g41 : gd0 41 = true := by decide +kernel
  induction h with
  | @cmp ar op l r ho hl hr =>
    have key : ∀ t, gdB t = true → gdB (atomC l ++ (32 :: csS op ++ [32]) ++ atomC r ++ t) = true := fun t ht => by
      rw [List.append_assoc, List.append_assoc]
      exact gd_ap (gd_op ho (gd_ap ht (gd_atom hr))) (gd_atom hl)
    refine ⟨fun b t ht => ?_, fun k t ht => ?_⟩
    · simpa only [fmC] using key t ht
    · simpa only [qC, List.cons_append] using hb (key t ht)
  | @no ar f h0 ih =>
    have key : ∀ t, gdB t = true → gdB (csS "not " ++ fmC true f ++ t) = true := fun t ht => by
      rw [List.append_assoc]
      exact gd_ap (ih.1 true t ht) (by decide +kernel)
    refine ⟨fun b t ht => ?_, fun k t ht => ?_⟩
    · simpa only [fmC] using key t ht
    · simpa only [qC, List.cons_append] using hb (key t ht)
  | @q ar k n f hk hn hf h0 ih =>
    have gk : ∀ c ∈ csS k, gd0 c = true := by rcases hk with rfl | rfl <;> decide +kernel
    have gn : ∀ c ∈ (32 :: csS n), gd0 c = true := fun c hc => by
      rcases List.mem_cons.mp hc with rfl | hc
      · decide +kernel
      · exact gd_name hn c hc
    have key : ∀ t, gdB t = true → gdB (csS k ++ (32 :: csS n) ++ qC k f ++ t) = true := fun t ht => by
      rw [List.append_assoc, List.append_assoc]
      exact gd_ap (gd_ap (ih.2 k t ht) gn) gk
    refine ⟨fun b t ht => ?_, fun k2 t ht => ?_⟩
    · cases b with
      | false => simpa [fmC] using key t ht
      | true =>
        have := gd_cons g40 (key (41 :: t) (gd_cons g41 ht))
        simpa [fmC] using this
    · simp only [qC]
      split
      · have := gd_ap (ih.2 k2 t ht) gn
        simpa using this
      · have := hb (key t ht)
        simpa using this
  | @row ar k fs hk hl hs ih =>
    have gk : ∀ c ∈ (32 :: csS k ++ [32]), gd0 c = true := by rcases hk with rfl | rfl <;> decide +kernel
    have key : ∀ t, gdB t = true → gdB (sepC k (fmsC fs) ++ t) = true := fun t ht => gd_row gk ht fs fun f hf => (ih f hf).1 true
    refine ⟨fun b t ht => ?_, fun k2 t ht => ?_⟩
    · cases b with
      | false => simpa [fmC] using key t ht
      | true =>
        have := gd_cons g40 (key (41 :: t) (gd_cons g41 ht))
        simpa [fmC] using this
    · simpa only [qC, List.cons_append] using hb (key t ht)
theorem gd_fm {ar : List Str} {f : Fm} (h : OkF ar f) : gdB (fmC false f) = true := by
  have := (gd_all h).1 false [] rfl
  rwa [List.append_nil] at this
end Df

namespace Df
open PySem
/-! ### texts with the words of a formula are read -/
def goodW (w : Str) : Bool := !decide (w = ("" : Str)) && ((csS w).all (fun c => decide (c < 128)) && ((!isNumW w || decide (w.length = 1)) && decide (w.length ≤ 100)))
def GW (ws : List Str) : Prop := ∀ w ∈ ws, goodW w = true
theorem GW.nil : GW [] := fun _ h => nomatch h
theorem GW.cons {w : Str} {ws : List Str} (h : goodW w = true) (t : GW ws) : GW (w :: ws) := fun x hx => by
  rcases List.mem_cons.mp hx with rfl | hx
  · exact h
  · exact t x hx
theorem GW.app {a b : List Str} (h : GW a) (t : GW b) : GW (a ++ b) := fun x hx => by
  rcases List.mem_append.mp hx with hx | hx
  · exact h x hx
  · exact t x hx
theorem gw_consts : ∀ x ∈ (["(", ")", ":", "+", "-", "not", "all", "some", "and", "or", "<=", ">=", "!=", "=", "<", ">"] : List Str), goodW x = true := by decide +kernel
theorem gw_ops : ∀ x ∈ opsL, goodW x = true := by decide +kernel
theorem gw_num : ∀ n ≤ 9, goodW (numW n) = true := by decide +kernel
theorem gw_name {x : Str} (h : isNameW x = true) : goodW x = true := by
  have h0 := (name_ne h).2.2.2.2.2.1
  have h8 := name_le h
  have hs : ∀ c ∈ csS x, isSmall c = true := by
    unfold isNameW at h
    simp only [Bool.and_eq_true] at h
    exact fun c hc => List.all_eq_true.mp h.2.2.1 c hc
  have hfig : isNumW x = false := by
    have hne : csS x ≠ [] := fun e => by
      have : 1 ≤ x.length := by
        unfold isNameW at h
        simp only [Bool.and_eq_true, decide_eq_true_eq] at h
        exact h.1
      have hl : x.length = (csS x).length := K1.csx_len x
      rw [hl, e] at this
      simp at this
    obtain ⟨c, r, e⟩ : ∃ c r, csS x = c :: r := by
      cases e : csS x with
      | nil => exact absurd e hne
      | cons c r => exact ⟨c, r, rfl⟩
    have hc := hs c (by rw [e]; simp)
    have hf : isFig c = false := by
      simp only [isSmall, Bool.and_eq_true, decide_eq_true_eq] at hc
      simp only [isFig, Bool.and_eq_false_iff, decide_eq_false_iff_not]
      omega
    cases hn : isNumW x with
    | false => rfl
    | true =>
      unfold isNumW at hn
      simp only [Bool.and_eq_true] at hn
      have := List.all_eq_true.mp hn.2.1 c (by show c ∈ csS x; rw [e]; simp)
      rw [hf] at this
      cases this
  unfold goodW
  rw [hfig]
  simp only [Bool.and_eq_true]
  refine ⟨by simpa using h0, ?_, by simp, decide_eq_true (by omega)⟩
  rw [List.all_eq_true]
  intro c hc
  have := hs c hc
  simp only [isSmall, Bool.and_eq_true, decide_eq_true_eq] at this
  exact decide_eq_true (by omega)
theorem gc {x : Str} (h : x ∈ (["(", ")", ":", "+", "-", "not", "all", "some", "and", "or", "<=", ">=", "!=", "=", "<", ">"] : List Str)) : goodW x = true := gw_consts x h
theorem GW_atom {a : Str × Int} (h : OkA a) : GW (atomW a) := by
  obtain ⟨x, i⟩ := a
  have hn : goodW (numW i.natAbs) = true := gw_num _ h.i
  have m1 : goodW "-" = true := gc (by decide +kernel)
  have m2 : goodW "+" = true := gc (by decide +kernel)
  rcases h.x with e | hx
  · have e : x = "0" := e
    subst e
    by_cases c : i < 0
    · simp only [atomW, if_pos c, if_pos]
      exact .cons m1 (.cons hn .nil)
    · simp only [atomW, if_neg c, if_pos]
      exact .cons hn .nil
  · have hx : isNameW x = true := hx
    have m0 := (name_ne hx).1
    have hp := gw_name hx
    simp only [atomW, if_neg m0]
    split
    · exact .cons hp .nil
    · split
      · exact .cons hp (.cons m2 (.cons hn .nil))
      · exact .cons hp (.cons m1 (.cons hn .nil))
theorem GW_sep {k : Str} (hk : goodW k = true) : ∀ (fs : List Fm), (∀ f ∈ fs, GW (fmW true f)) → GW (sepW k (fmsW fs))
  | [], _ => .nil
  | [f], h => h f List.mem_cons_self
  | f :: g :: fs, h => ((h f List.mem_cons_self).app (.cons hk .nil)).app (GW_sep hk (g :: fs) fun x hx => h x (List.mem_cons_of_mem _ hx))
theorem GW_par {f : Fm} (h : GW (fmW false f)) (e : fmW true f = ("(" : Str) :: (fmW false f ++ [(")" : Str)])) : GW (fmW true f) := by
  rw [e]
  exact .cons (gc (by decide +kernel)) (h.app (.cons (gc (by decide +kernel)) .nil))
theorem GW_all {ar : List Str} {f : Fm} (h : OkF ar f) : (∀ b, GW (fmW b f)) ∧ ∀ k, GW (qW k f) := by
  have c : goodW ":" = true := gc (by decide +kernel)
  induction h with
  | @cmp ar op l r ho hl hr =>
    have := ((GW_atom hl).app (.cons (gw_ops op ho) .nil)).app (GW_atom hr)
    exact ⟨fun b => by simpa [fmW] using this, fun k => by have := GW.cons c this; simpa [qW] using this⟩
  | @no ar f _ ih =>
    have := GW.cons (gc (x := "not") (by decide +kernel)) (ih.1 true)
    exact ⟨fun b => by simpa [fmW] using this, fun k => by have := GW.cons c this; simpa [qW] using this⟩
  | @q ar k n f hk hn hf _ ih =>
    have hkp : goodW k = true := gc (by rcases hk with rfl | rfl <;> decide +kernel)
    have hnp := gw_name hn
    have h0 : GW (fmW false (.q k n f)) := by have := GW.cons hkp (.cons hnp (ih.2 k)); simpa [fmW] using this
    refine ⟨fun b => by
      cases b with
      | false => exact h0
      | true => exact GW_par h0 (by simp [fmW]), fun kk => ?_⟩
    by_cases e : k = kk
    · subst e
      have := GW.cons hnp (ih.2 k)
      simpa [qW] using this
    · have := GW.cons c (.cons hkp (.cons hnp (ih.2 k)))
      simpa [qW, e] using this
  | @row ar k fs hk hl _ ih =>
    have hkp : goodW k = true := gc (by rcases hk with rfl | rfl <;> decide +kernel)
    have := GW_sep hkp fs fun f hf => (ih f hf).1 true
    have h0 : GW (fmW false (.row k fs)) := by simpa [fmW] using this
    exact ⟨fun b => by
      cases b with
      | false => exact h0
      | true => exact GW_par h0 (by simp [fmW]), fun kk => by have := GW.cons c this; simpa [qW] using this⟩
end Df

namespace K1
open PySem PySem.Spec PyProof.Rows L2 Ls
theorem mk_csS (w : Str) : mkS (Df.csS w) = w := Df.csS_inj (csx_mk _)
/-- a text with good words may be read; its words -/
theorem sep_words {x : Str} {ws : List Str} (h : Df.Sep (csx x) (ws.map Df.csS)) (hg : Df.GW ws) (hn : ws.length ≤ 989) (hx : x.length ≤ 100000) :
    TxOk x ∧ ∃ ps, lexS (csx x) 0 = .inl ps ∧ (wordsT x ps).map (·.1) = ws ++ [("" : Str)] := by
  obtain ⟨ps, h1, h2⟩ := Df.lex_sep2 h 0 (n := (csx x).length + 1) (Nat.lt_succ_self _)
  have e : lexS (csx x) 0 = .inl ps := by
    show Df.lexC ((csx x).length + 1) 0 ((csx x).drop 0) = _
    rw [List.drop_zero]
    exact h1
  have hw : (toS ps).map (·.1) = ws := by
    have : (toS ps).map (·.1) = (ps.map (·.1)).map mkS := by simp [toS]
    rw [this, h2, List.map_map]
    conv => rhs; rw [← List.map_id ws]
    exact List.map_congr_left fun w _ => mk_csS w
  have hwT : (wordsT x ps).map (·.1) = ws ++ [("" : Str)] := by
    rw [wordsT, List.map_append, hw]
    rfl
  refine ⟨⟨hx, fun ps' e' => ?_⟩, ps, e, hwT⟩
  rw [e] at e'
  cases e'
  have hlen : (toS ps).length = ws.length := by rw [← hw, List.length_map]
  have inW : ∀ q ∈ toS ps, Df.goodW q.1 = true := fun q hq => hg q.1 (by rw [← hw]; exact List.mem_map_of_mem hq)
  have spl : ∀ q ∈ wordsT x ps, q ∈ toS ps ∨ q = (("" : Str), x.length) := fun q hq => by
    rcases List.mem_append.mp hq with h | h
    · exact .inl h
    · exact .inr (List.mem_singleton.mp h)
  have un : ∀ w, Df.goodW w = true → w ≠ ("" : Str) ∧ (∀ c ∈ csx w, c < 128) ∧ (Df.isNumW w = true → w.length = 1) ∧ w.length ≤ 100 := fun w hw => by
    unfold Df.goodW at hw
    simp only [Bool.and_eq_true] at hw
    obtain ⟨a1, a2, a3, a4⟩ := hw
    refine ⟨by simpa using a1, fun c hc => of_decide_eq_true (List.all_eq_true.mp a2 c hc), fun hnum => ?_, of_decide_eq_true a4⟩
    rw [hnum] at a3
    simpa using a3
  refine ⟨⟨toS ps, x.length, rfl, fun q hq => (un _ (inW q hq)).1⟩, fun q hq => ?_, fun q hq => ?_, fun q hq => ?_, ?_⟩
  · rcases spl q hq with h | rfl
    · exact (un _ (inW q h)).2.1
    · intro c hc
      cases hc
  · rcases spl q hq with h | rfl
    · exact (un _ (inW q h)).2.2.1
    · intro hnum
      have : Df.isNumW ("" : Str) = false := by decide +kernel
      rw [this] at hnum
      cases hnum
  · rcases spl q hq with h | rfl
    · have := (un _ (inW q h)).2.2.2
      omega
    · exact Nat.zero_le _
  · rw [wordsT, List.length_append, hlen]
    simp only [List.length_cons, List.length_nil]
    omega
/-- .. is read as the formula -/
theorem sep_read {x : Str} {ws : List Str} {f : Df.Fm} {c d : Nat} (h : Df.Sep (csx x) (ws.map Df.csS)) (hg : Df.GW ws) (hn : ws.length ≤ 989) (hx : x.length ≤ 100000) (hr : Df.Reads c [] ws f) (hd : c ≤ d) : TxOk x ∧ readT d x = some (.inl f) := by
  obtain ⟨t, ps, e, hw⟩ := sep_words h hg hn hx
  refine ⟨t, ?_⟩
  unfold readT
  rw [e]
  simp only
  rw [hw, Df.reads_whole hr d hd]
end K1

namespace Df
open PySem
/-- what a word of a formula may be -/
def clsW (w : Str) : Prop := w ∈ (["(", ")", ":", "+", "-", "not", "all", "some", "and", "or", "<=", ">=", "!=", "=", "<", ">"] : List Str) ∨ w ∈ opsL ∨ (∃ n ≤ 9, w = numW n) ∨ isNameW w = true
def CW (ws : List Str) : Prop := ∀ w ∈ ws, clsW w
theorem CW.nil : CW [] := fun _ h => nomatch h
theorem CW.cons {w : Str} {ws : List Str} (h : clsW w) (t : CW ws) : CW (w :: ws) := fun x hx => by
  rcases List.mem_cons.mp hx with rfl | hx
  · exact h
  · exact t x hx
theorem CW.app {a b : List Str} (h : CW a) (t : CW b) : CW (a ++ b) := fun x hx => by
  rcases List.mem_append.mp hx with hx | hx
  · exact h x hx
  · exact t x hx
theorem CW_atom {a : Str × Int} (h : OkA a) : CW (atomW a) := by
  obtain ⟨x, i⟩ := a
  have hn : clsW (numW i.natAbs) := .inr (.inr (.inl ⟨_, h.i, rfl⟩))
  have m1 : clsW "-" := .inl (by decide +kernel)
  have m2 : clsW "+" := .inl (by decide +kernel)
  rcases h.x with e | hx
  · have e : x = "0" := e
    subst e
    by_cases c : i < 0
    · simp only [atomW, if_pos c, if_pos]
      exact .cons m1 (.cons hn .nil)
    · simp only [atomW, if_neg c, if_pos]
      exact .cons hn .nil
  · have hx : isNameW x = true := hx
    have m0 := (name_ne hx).1
    have hp : clsW x := .inr (.inr (.inr hx))
    simp only [atomW, if_neg m0]
    split
    · exact .cons hp .nil
    · split
      · exact .cons hp (.cons m2 (.cons hn .nil))
      · exact .cons hp (.cons m1 (.cons hn .nil))
theorem CW_sep {k : Str} (hk : clsW k) : ∀ (fs : List Fm), (∀ f ∈ fs, CW (fmW true f)) → CW (sepW k (fmsW fs))
  | [], _ => .nil
  | [f], h => h f List.mem_cons_self
  | f :: g :: fs, h => ((h f List.mem_cons_self).app (.cons hk .nil)).app (CW_sep hk (g :: fs) fun x hx => h x (List.mem_cons_of_mem _ hx))
theorem CW_par {f : Fm} (h : CW (fmW false f)) (e : fmW true f = ("(" : Str) :: (fmW false f ++ [(")" : Str)])) : CW (fmW true f) := by
  rw [e]
  exact .cons (.inl (by decide +kernel)) (h.app (.cons (.inl (by decide +kernel)) .nil))
theorem CW_all {ar : List Str} {f : Fm} (h : OkF ar f) : (∀ b, CW (fmW b f)) ∧ ∀ k, CW (qW k f) := by
  have c : clsW ":" := .inl (by decide +kernel)
  induction h with
  | @cmp ar op l r ho hl hr =>
    have := ((CW_atom hl).app (.cons (.inr (.inl ho)) .nil)).app (CW_atom hr)
    exact ⟨fun b => by simpa [fmW] using this, fun k => by have := CW.cons c this; simpa [qW] using this⟩
  | @no ar f _ ih =>
    have := CW.cons (show clsW "not" from .inl (by decide +kernel)) (ih.1 true)
    exact ⟨fun b => by simpa [fmW] using this, fun k => by have := CW.cons c this; simpa [qW] using this⟩
  | @q ar k n f hk hn hf _ ih =>
    have hkp : clsW k := .inl (by rcases hk with rfl | rfl <;> decide +kernel)
    have hnp : clsW n := .inr (.inr (.inr hn))
    have h0 : CW (fmW false (.q k n f)) := by have := CW.cons hkp (.cons hnp (ih.2 k)); simpa [fmW] using this
    refine ⟨fun b => by
      cases b with
      | false => exact h0
      | true => exact CW_par h0 (by simp [fmW]), fun kk => ?_⟩
    by_cases e : k = kk
    · subst e
      have := CW.cons hnp (ih.2 k)
      simpa [qW] using this
    · have := CW.cons c (.cons hkp (.cons hnp (ih.2 k)))
      simpa [qW, e] using this
  | @row ar k fs hk hl _ ih =>
    have hkp : clsW k := .inl (by rcases hk with rfl | rfl <;> decide +kernel)
    have := CW_sep hkp fs fun f hf => (ih f hf).1 true
    have h0 : CW (fmW false (.row k fs)) := by simpa [fmW] using this
    exact ⟨fun b => by
      cases b with
      | false => exact h0
      | true => exact CW_par h0 (by simp [fmW]), fun kk => by have := CW.cons c this; simpa [qW] using this⟩
end Df

namespace Df
open PySem
theorem nar_consts : ∀ x ∈ (["(", ")", ":", "+", "-", "not", "all", "some", "and", "or", "<=", ">=", "!=", "=", "<", ">"] : List Str), (58 ∉ csS x ∨ csS x = [58]) ∧ 32 ∉ csS x ∧ csS x ≠ [33] := by decide +kernel
theorem nar_ops : ∀ x ∈ opsL, (58 ∉ csS x ∨ csS x = [58]) ∧ 32 ∉ csS x ∧ csS x ≠ [33] := by decide +kernel
theorem nar_nums : ∀ n ≤ 9, (58 ∉ csS (numW n) ∨ csS (numW n) = [58]) ∧ 32 ∉ csS (numW n) ∧ csS (numW n) ≠ [33] := by decide +kernel
theorem nar {w : Str} (h : clsW w) : (58 ∉ csS w ∨ csS w = [58]) ∧ 32 ∉ csS w ∧ csS w ≠ [33] := by
  rcases h with h | h | ⟨n, hn, rfl⟩ | h
  · exact nar_consts w h
  · exact nar_ops w h
  · exact nar_nums n hn
  · have hs := (csS_name h).2
    have no : ∀ c ∈ csS w, 97 ≤ c := fun c hc => by
      have := List.all_eq_true.mp hs c hc
      simp only [isSmall, Bool.and_eq_true, decide_eq_true_eq] at this
      exact this.1
    refine ⟨.inl fun h => ?_, fun h => ?_, fun e => ?_⟩
    · have := no _ h; omega
    · have := no _ h; omega
    · have := no 33 (by rw [e]; simp); omega
theorem sizes {d : Nat} (h : d ≤ 4) : tl d ≤ 6000 ∧ wl d ≤ 800 ∧ fl d ≤ 200 := by
  have : ∀ d ≤ 4, tl d ≤ 6000 ∧ wl d ≤ 800 ∧ fl d ≤ 200 := by decide +kernel
  exact this d h
theorem sep_fm {f : Fm} (h : OkF [] f) : Sep (fmC false f) ((fmW false f).map csS) := by
  have := (sep_all h).1 false [] [] (.inl rfl) .nil
  rw [List.append_nil, List.append_nil] at this
  exact this
end Df
namespace K1
open PySem PySem.Spec PyProof.Rows L2 Ls
theorem text_any {f : Df.Fm} {d : Nat} (h : Df.OkF [] f) (hs : Df.Siz d f) (hd : d ≤ 4) {x : Str} (hl : x.length ≤ 100000) (hx : Df.Sep (csx x) ((Df.fmW false f).map Df.csS)) : TxOk x ∧ readT 30 x = some (.inl f) := by
  have := Df.sizes hd
  have hw := hs.w
  have hwf := Df.fmW_ft f
  have hh := hs.h
  exact sep_read hx ((Df.GW_all h).1 false) (by omega) hl (Df.reads_fm h) (by unfold Df.bnd0; omega)
theorem text_read {f : Df.Fm} {d : Nat} (h : Df.OkF [] f) (hs : Df.Siz d f) (hd : d ≤ 4) {x : Str} (hx : csx x = Df.fmC false f) : TxOk x ∧ readT 30 x = some (.inl f) := by
  have := Df.sizes hd
  have hc := hs.c
  have hcf := Df.fmC_ft f
  refine text_any h hs hd ?_ (by rw [hx]; exact Df.sep_fm h)
  rw [csx_len, hx]
  omega
theorem text_narrow {f : Df.Fm} {d : Nat} (h : Df.OkF [] f) (hs : Df.Siz d f) (hd : d ≤ 4) {x : Str} (hl : x.length ≤ 100000) (hx : csx x = Df.rep3 (Df.rep2 (Df.fmC false f))) : TxOk x ∧ readT 30 x = some (.inl f) := by
  have cw := (Df.CW_all h).1 false
  refine text_any h hs hd hl ?_
  rw [hx]
  refine Df.sep_rep3 _ (Nat.le_refl _) (p := true) (Df.sep_rep2 _ (Nat.le_refl _) (Df.sep_fm h) fun w hw => ?_) ((Df.oo_all h).1 false) fun w hw => (Df.nar (cw w hw)).2
  obtain ⟨y, hy, rfl⟩ := List.mem_map.mp hw
  exact (Df.nar (cw y hy)).1
end K1

namespace Df
open PySem
theorem tw_stop41 {p : Nat → Bool} (hp : p 41 = false) : ∀ {w cs ds : List Nat}, ((w ++ cs).takeWhile p).length = w.length → (ds.head? = cs.head? ∨ ds.head? = some 41) → ((w ++ ds).takeWhile p).length = w.length
  | [], cs, ds, h, hd => by
    rw [List.nil_append] at h ⊢
    cases ds with
    | nil => rfl
    | cons d r =>
      have : p d = false := by
        rcases hd with e | e
        · cases cs with
          | nil => cases e
          | cons c t =>
            have e : d = c := by simpa using e
            subst e
            cases q : p d with
            | false => rfl
            | true => rw [List.takeWhile_cons, if_pos q] at h; simp at h
        · have e : d = 41 := by simpa using e
          rw [e, hp]
      rw [List.takeWhile_cons, this]
      rfl
  | a :: w, cs, ds, h, hd => by
    rw [List.cons_append, List.takeWhile_cons] at h ⊢
    cases q : p a with
    | false => rw [q] at h; simp at h
    | true =>
      rw [q] at h
      have h' : ((w ++ cs).takeWhile p).length = w.length := by simpa using h
      have := tw_stop41 hp h' hd
      simpa using this
theorem run_stop41 {a : Nat} {w cs ds : List Nat} (h : runC a (a :: w ++ cs) = (a :: w).length) (hd : ds.head? = cs.head? ∨ ds.head? = some 41) : runC a (a :: w ++ ds) = (a :: w).length := by
  unfold runC at h ⊢
  split
  · rename_i c
    rw [if_pos c] at h
    exact tw_stop41 (w := a :: w) (by decide) h hd
  · rename_i c
    rw [if_neg c] at h
    exact tw_stop41 (w := a :: w) (by decide) h hd
/-- a word ends where it ended, if what is behind it begins alike, or with ) -/
theorem len_stop41 {w cs ds : List Nat} (hw : w ≠ []) (hl : lenC (w ++ cs) = w.length) (hd : ds.head? = cs.head? ∨ ds.head? = some 41) : lenC (w ++ ds) = w.length := by
  match w, hw, hl with
  | [a], _, hl =>
    cases ds with
    | nil =>
      have : cs = [] := by
        cases cs with
        | nil => rfl
        | cons c t => rcases hd with e | e <;> cases e
      rw [this] at hl
      exact hl
    | cons d r =>
      show lenC (a :: d :: r) = 1
      rw [lenC2]
      have hp : pairOp a d = false := by
        rcases hd with e | e
        · cases cs with
          | nil => cases e
          | cons c t =>
            have e : d = c := by simpa using e
            subst e
            cases q : pairOp a d with
            | false => rfl
            | true =>
              have hl : lenC (a :: d :: t) = 1 := hl
              rw [lenC2, q] at hl
              simp at hl
        · have e : d = 41 := by simpa using e
          rw [e]
          rfl
      rw [hp, if_neg (by decide)]
      split
      · rfl
      · rename_i ho
        refine run_stop41 (w := []) (cs := cs) ?_ hd
        cases cs with
        | nil =>
          have hl : lenC [a] = 1 := hl
          rw [lenC1] at hl
          cases q2 : (a == 61 || (a == 60 || a == 62)) with
          | true => rw [q2] at hl; simp at hl
          | false =>
            rw [q2, if_neg (by decide), if_neg ho] at hl
            exact hl
        | cons c t =>
          have hl : lenC (a :: c :: t) = 1 := hl
          rw [lenC2] at hl
          cases q2 : pairOp a c with
          | true => rw [q2] at hl; simp at hl
          | false =>
            rw [q2, if_neg (by decide), if_neg ho] at hl
            exact hl
  | a :: b :: w, _, hl =>
    have hl : lenC (a :: b :: (w ++ cs)) = (a :: b :: w).length := hl
    show lenC (a :: b :: (w ++ ds)) = (a :: b :: w).length
    rw [lenC2] at hl ⊢
    split
    · rename_i hp
      rw [if_pos hp] at hl
      exact hl
    · rename_i hp
      rw [if_neg hp] at hl
      split
      · rename_i ho
        rw [if_pos ho] at hl
        exact hl
      · rename_i ho
        rw [if_neg ho] at hl
        exact run_stop41 (w := b :: w) hl hd
/-- words, and behind them ) -/
theorem sep_snoc41 {cs : List Nat} {ws : List (List Nat)} (h : Sep cs ws) {t : List Nat} {vs : List (List Nat)} (ht : t.head? = some 41) (hv : Sep t vs) : Sep (cs ++ t) (ws ++ vs) := by
  induction h with
  | nil => exact hv
  | @blank cs ws _ ih => exact .blank ih
  | @word w cs ws hw h32 hl _ ih =>
    rw [List.append_assoc]
    refine .word hw h32 (len_stop41 hw hl ?_) ih
    cases cs with
    | nil => exact .inr ht
    | cons c r => exact .inl rfl
end Df

namespace K1
open PySem PySem.Spec PyProof.Rows L2 Ls
theorem text_wide {f : Df.Fm} {d : Nat} (h : Df.OkF [] f) (hs : Df.Siz d f) (hd : d ≤ 4) {x : Str} (hl : x.length ≤ 100000) (hx : csx x = [32, 32, 40, 40] ++ ((Df.fmC false f).flatMap Df.wideF ++ [41, 32, 41, 32])) : TxOk x ∧ readT 30 x = some (.inl f) := by
  have := Df.sizes hd
  have hw := hs.w
  have hwf := Df.fmW_ft f
  have hh := hs.h
  have s1 : Df.Sep [41, 32, 41, 32] [[41], [41]] := Df.sep_one (by decide) (.blank (Df.sep_one (by decide) (.blank .nil)))
  have s2 := Df.sep_snoc41 (Df.sep_wide_fm h) (t := [41, 32, 41, 32]) rfl s1
  have s3 : Df.Sep ([32, 32, 40, 40] ++ ((Df.fmC false f).flatMap Df.wideF ++ [41, 32, 41, 32])) ([40] :: [40] :: ((Df.fmW false f).map Df.csS ++ [[41], [41]])) := .blank (.blank (Df.sep_one (by decide) (Df.sep_one (by decide) s2)))
  have r := Df.reads_par (Df.reads_par (Df.reads_fm h))
  have ew : ([40] :: [40] :: ((Df.fmW false f).map Df.csS ++ [[41], [41]])) = (("(" : Str) :: (("(" : Str) :: (Df.fmW false f ++ [(")" : Str)]) ++ [(")" : Str)])).map Df.csS := by
    simp only [List.map_cons, List.map_append, List.map_nil, List.cons_append, List.append_assoc, List.nil_append]
    rfl
  rw [ew] at s3
  have g1 := Df.gw_consts "(" (by simp)
  have g2 := Df.gw_consts ")" (by simp)
  refine sep_read (by rw [hx]; exact s3) (.cons g1 (.app (.cons g1 (.app ((Df.GW_all h).1 false) (.cons g2 .nil))) (.cons g2 .nil))) ?_ hl r (by unfold Df.bnd0; omega)
  simp only [List.length_cons, List.length_append, List.length_nil]
  omega
end K1

namespace Df
open PySem
theorem gd_take : ∀ (k : Nat) {p : List Nat}, gdB p = true → gdB (p.take k) = true
  | 0, _, _ => by simp [gdB]
  | k + 1, [], _ => by simp [gdB]
  | k + 1, [c], h => by simpa using h
  | k + 1, c :: b :: r, h => by
    have ih := gd_take k (gd_tail h)
    rw [List.take_succ_cons]
    unfold gdB at h ⊢
    rw [Bool.and_eq_true] at h ⊢
    refine ⟨?_, ih⟩
    cases k with
    | zero =>
      have h1 := h.1
      simp only [List.take_zero]
      simp only [Bool.or_eq_true, Bool.and_eq_true] at h1 ⊢
      rcases h1 with h | h | h | h | h
      · exact .inl h
      · exact .inr (.inl h)
      · exact .inr (.inr (.inl h))
      · exact .inr (.inr (.inr (.inl h)))
      · exact .inr (.inr (.inr (.inr ⟨h.1, trivial⟩)))
    | succ k => exact h.1
end Df
namespace K1
open PySem PySem.Spec PyProof.Rows L2 Ls
/-- a strange sign is refused -/
theorem text_strange {d s : Nat} {p t : List Nat} {x : Str} (hs : Df.strange s = true) (ht : t.head? ≠ some 61) (hg : Df.gdB p = true) (hx : csx x = p ++ s :: t) (hl : x.length ≤ 100000) : TxOk x ∧ readT d x = some (.inr (p.length - Df.tl33 p + 1)) := by
  have e : lexS (csx x) 0 = .inr (p.length - Df.tl33 p) := by
    show Df.lexC ((csx x).length + 1) 0 ((csx x).drop 0) = _
    rw [List.drop_zero, hx, Df.lex_strange hs ht _ p 0 (by simp; omega) hg, Nat.zero_add]
  refine ⟨⟨hl, fun ps h => by rw [e] at h; cases h⟩, ?_⟩
  unfold readT
  rw [e]
/-- words refused behind the last one: the column behind the text -/
theorem text_end {x : Str} {ws : List Str} {d : Nat} (h : Df.Sep (csx x) (ws.map Df.csS)) (hg : Df.GW ws) (hn : ws.length ≤ 989) (hx : x.length ≤ 100000) (hr : Df.readW d (ws ++ [("" : Str)]) = .bad [("" : Str)]) : TxOk x ∧ readT d x = some (.inr (x.length + 1)) := by
  obtain ⟨t, ps, e, hw⟩ := sep_words h hg hn hx
  refine ⟨t, ?_⟩
  unfold readT
  rw [e]
  simp only
  rw [hw, hr]
  have hl : (wordsT x ps)[(wordsT x ps).length - [("" : Str)].length]? = some (("" : Str), x.length) := by
    rw [wordsT, List.length_append]
    simp
  simp only [hl]
end K1

namespace Df
open PySem
/-- the last word ends where the text ends, if no blank stands there -/
theorem last_pos : ∀ (n i : Nat) (cs : List Nat) (ps : List (List Nat × Nat)), lexC n i cs = .inl ps → cs ≠ [] → cs.getLast? ≠ some 32 → ∃ q, ps.getLast? = some q ∧ q.2 + q.1.length = i + cs.length
  | 0, i, cs, ps, h, _, _ => by
    unfold lexC at h
    cases h
  | n + 1, i, [], ps, _, hne, _ => absurd rfl hne
  | n + 1, i, c :: cs, ps, h, _, hl => by
    rw [lexC] at h
    have gl : ∀ {a : Nat} {r : List Nat}, r ≠ [] → (a :: r).getLast? = r.getLast? := fun {a r} hr => by
      cases r with
      | nil => exact absurd rfl hr
      | cons b r => rfl
    by_cases hc : c = 32
    · rw [if_pos hc] at h
      have hcs : cs ≠ [] := fun z => by
        subst z
        exact hl (by rw [hc]; rfl)
      obtain ⟨q, h1, h2⟩ := last_pos n (i + 1) cs ps h hcs (by rw [← gl hcs]; exact hl)
      exact ⟨q, h1, by rw [h2, List.length_cons]; omega⟩
    · rw [if_neg hc] at h
      cases hk : lenC (c :: cs) with
      | zero => rw [hk] at h; cases h
      | succ k =>
        rw [hk] at h
        simp only at h
        cases hr : lexC n (i + (k + 1)) ((c :: cs).drop (k + 1)) with
        | inr j => rw [hr] at h; cases h
        | inl ws =>
          rw [hr] at h
          have e : ps = ((c :: cs).take (k + 1), i) :: ws := (Sum.inl.inj h).symm
          have hdl : ((c :: cs).drop (k + 1)).length = (c :: cs).length - (k + 1) := List.length_drop
          by_cases hd : (c :: cs).drop (k + 1) = []
          · rw [hd] at hr hdl
            have hws : ws = [] := by
              cases n with
              | zero => unfold lexC at hr; cases hr
              | succ n => rw [lexC] at hr; exact (Sum.inl.inj hr).symm
            subst hws
            refine ⟨((c :: cs).take (k + 1), i), by rw [e]; rfl, ?_⟩
            show i + ((c :: cs).take (k + 1)).length = _
            rw [List.length_take]
            simp only [List.length_nil] at hdl
            omega
          · have hgl : ((c :: cs).drop (k + 1)).getLast? = (c :: cs).getLast? := by
              have := List.take_append_drop (k + 1) (c :: cs)
              conv => rhs; rw [← this]
              rw [List.getLast?_append]
              cases e2 : ((c :: cs).drop (k + 1)).getLast? with
              | none => exact absurd (List.getLast?_eq_none_iff.mp e2) hd
              | some z => rfl
            obtain ⟨q, h1, h2⟩ := last_pos n _ _ ws hr hd (by rw [hgl]; exact hl)
            have hpos : 0 < ((c :: cs).drop (k + 1)).length := List.length_pos_iff.mpr hd
            refine ⟨q, ?_, by rw [h2, hdl]; omega⟩
            rw [e]
            cases ws with
            | nil => cases h1
            | cons w ws => exact h1
end Df
namespace K1
open PySem PySem.Spec PyProof.Rows L2 Ls
/-- a further word is refused where it stands -/
theorem text_more {f : Df.Fm} {d : Nat} (h : Df.OkF [] f) (hs : Df.Siz d f) (hd : d ≤ 4) {x : Str} (hx : csx x = Df.fmC false f ++ [32, 41]) : TxOk x ∧ readT 30 x = some (.inr x.length) := by
  have := Df.sizes hd
  have hw := hs.w
  have hwf := Df.fmW_ft f
  have hc := hs.c
  have hcf := Df.fmC_ft f
  have hh := hs.h
  have hsep : Df.Sep (csx x) ((Df.fmW false f ++ [(")" : Str)]).map Df.csS) := by
    rw [hx, List.map_append]
    have s1 : Df.Sep [32, 41] [[41]] := .blank (Df.sep_one (by decide) .nil)
    exact (Df.sep_all h).1 false [32, 41] [[41]] (.inr ⟨[41], .inl rfl⟩) s1
  have hl : x.length ≤ 100000 := by
    rw [csx_len, hx, List.length_append]
    simp only [List.length_cons, List.length_nil]
    omega
  obtain ⟨t, ps, e, hwd⟩ := sep_words hsep (((Df.GW_all h).1 false).app (.cons (Df.gw_consts ")" (by simp)) .nil)) (by rw [List.length_append]; simp only [List.length_cons, List.length_nil]; omega) hl
  refine ⟨t, ?_⟩
  have hb := Df.more_bad h 30 (by unfold Df.bnd0; omega)
  unfold readT
  rw [e]
  simp only
  rw [hwd, List.append_assoc, show [(")" : Str)] ++ [("" : Str)] = [(")" : Str), ("" : Str)] from rfl, hb]
  simp only
  obtain ⟨q, hq, hpos⟩ := Df.last_pos _ _ _ _ e (by rw [List.drop_zero, hx]; simp) (by rw [List.drop_zero, hx]; simp)
  have hps : ps ≠ [] := fun z => by rw [z] at hq; cases hq
  rw [wordsT, List.map_append, show ([(("" : Str), x.length)] : List (Str × Nat)).map (·.1) = [("" : Str)] from rfl] at hwd
  have hts : (toS ps).map (·.1) = Df.fmW false f ++ [(")" : Str)] := List.append_cancel_right hwd
  have hln : (toS ps).length = (Df.fmW false f).length + 1 := by
    have := congrArg List.length hts
    simpa using this
  have hlq : (toS ps)[(Df.fmW false f).length]? = some (mkS q.1, q.2) := by
    have h1 : (toS ps).getLast? = some (mkS q.1, q.2) := by
      show (ps.map fun q => (mkS q.1, q.2)).getLast? = _
      rw [List.getLast?_map, hq]
      rfl
    rw [List.getLast?_eq_getElem?, hln] at h1
    exact h1
  have hw1 : mkS q.1 = (")" : Str) := by
    have : ((toS ps).map (·.1))[(Df.fmW false f).length]? = some (mkS q.1) := by rw [List.getElem?_map, hlq]; rfl
    rw [hts] at this
    simp at this
    exact this.symm
  have hq1 : q.1.length = 1 := by
    have := congrArg csx hw1
    rw [csx_mk] at this
    rw [this]
    rfl
  have hidx : (wordsT x ps)[(wordsT x ps).length - [(")" : Str), ("" : Str)].length]? = some (mkS q.1, q.2) := by
    rw [wordsT, List.length_append, hln, List.getElem?_append_left (by rw [hln]; simp)]
    simpa using hlq
  rw [hidx]
  simp only
  rw [List.drop_zero, hq1, Nat.zero_add, ← csx_len] at hpos
  rw [hpos]
end K1

namespace K1
open PySem PySem.Spec PyProof.Rows L2 Ls
/-- a text without its last word is refused at its end -/
theorem text_cut {f : Df.Fm} {d : Nat} (h : Df.OkF [] f) (hs : Df.Siz d f) (hd : d ≤ 4) : ∃ pre w, Df.fmC false f = pre ++ w ∧ Df.LastW pre w ∧ ∀ x : Str, csx x = pre → TxOk x ∧ readT 30 x = some (.inr (x.length + 1)) := by
  have := Df.sizes hd
  have hw := hs.w
  have hwf := Df.fmW_ft f
  have hc := hs.c
  have hcf := Df.fmC_ft f
  have hh := hs.h
  obtain ⟨pre, w, e, hlast, hsep⟩ := (Df.cutC_all h).1 false
  refine ⟨pre, w, e, hlast, fun x hx => ?_⟩
  have hlc := congrArg List.length e
  rw [List.length_append] at hlc
  have hdl : (Df.fmW false f).dropLast.length ≤ (Df.fmW false f).length := by rw [List.length_dropLast]; omega
  have hg : Df.GW (Df.fmW false f).dropLast := fun y hy => (Df.GW_all h).1 false y (List.dropLast_subset _ hy)
  exact text_end (by rw [hx]; exact hsep) hg (by omega) (by rw [csx_len, hx]; omega) (Df.cut_bad h 30 (by unfold Df.bnd0; omega))
end K1

namespace Df
open PySem
open StrLaws (replL replL_nil replL_hit replL_miss)
/-! ### the law's replaces, on signs -/
theorem repl_one (c : Nat) (z : List Nat) : ∀ l : List Nat, replL [c] z l = l.flatMap fun a => if a = c then z else [a]
  | [] => replL_nil
  | a :: l => by
    by_cases h : a = c
    · subst h
      rw [replL_hit (by simp) (by simp)]
      show z ++ replL [a] z l = _
      rw [repl_one a z l]
      simp
    · rw [replL_miss (by simp [h]), repl_one c z l]
      simp [h]
theorem repl_rep2 : ∀ l : List Nat, replL [58, 32] [58] l = rep2 l
  | [] => by rw [replL_nil, rep2]
  | [c] => by
    rw [replL_miss (by simp), replL_nil, rep2]
  | c :: d :: r => by
    by_cases h : c = 58 ∧ d = 32
    · rw [replL_hit (by simp) (by simp [h.1, h.2]), rep2, if_pos h]
      show [58] ++ replL [58, 32] [58] r = _
      rw [repl_rep2 r]
      rfl
    · rw [replL_miss (by simpa using fun a b => h ⟨a, b⟩), repl_rep2 (d :: r), rep2, if_neg h]
theorem repl_rep3 : ∀ l : List Nat, replL [32, 61, 32] [61] l = rep3 l
  | [] => by rw [replL_nil, rep3]
  | [c] => by
    rw [replL_miss (by simp), replL_nil, rep3]
  | [c, d] => by
    rw [replL_miss (by simp), replL_miss (by simp), replL_nil, rep3]
  | c :: d :: e :: r => by
    by_cases h : c = 32 ∧ (d = 61 ∧ e = 32)
    · rw [replL_hit (by simp) (by simp [h.1, h.2.1, h.2.2]), rep3, if_pos h]
      show [61] ++ replL [32, 61, 32] [61] r = _
      rw [repl_rep3 r]
      rfl
    · rw [replL_miss (by simpa using fun a b c => h ⟨a, b, c⟩), repl_rep3 (d :: e :: r), rep3, if_neg h]
theorem repl_wide (l : List Nat) : replL [41] [32, 41, 32] (replL [40] [32, 40, 32] (replL [32] [32, 32, 32] l)) = l.flatMap wideF := by
  rw [repl_one, repl_one, repl_one]
  induction l with
  | nil => rfl
  | cons a l ih =>
    rw [List.flatMap_cons, List.flatMap_append, List.flatMap_append, ih, List.flatMap_cons]
    congr 1
    unfold wideF
    by_cases h1 : a = 32
    · subst h1; decide
    · by_cases h2 : a = 40
      · subst h2; decide
      · by_cases h3 : a = 41
        · subst h3; decide
        · simp [h1, h2, h3]
end Df
namespace K1
open PySem PySem.Spec PyProof.Rows L2 Ls
theorem replace_wide (x : Str) : csx (Txt.replace (Txt.replace (Txt.replace x " " "   ") "(" " ( ") ")" " ) ") = (csx x).flatMap Df.wideF := by
  rw [← Df.repl_wide]
  show (Txt.replace _ _ _).cps.toList = _
  rw [StrLaws.replace_list (by decide), StrLaws.replace_list (by decide), StrLaws.replace_list (by decide)]
  rfl
theorem replace_narrow (x : Str) : csx (Txt.replace (Txt.replace x ": " ":") " = " "=") = Df.rep3 (Df.rep2 (csx x)) := by
  rw [← Df.repl_rep3, ← Df.repl_rep2]
  show (Txt.replace _ _ _).cps.toList = _
  rw [StrLaws.replace_list (by decide), StrLaws.replace_list (by decide)]
  rfl
end K1

namespace K1
open PySem PySem.Spec PyProof.Rows L2 Ls
open PySem.Builtin.Str in
/-- letters and figures at the end go -/
theorem rstrip_pre {x y : Str} {pre w : List Nat} (hx : csx x = pre ++ w) (hw : ∀ c ∈ w, y.cps.contains c = true) (hp : pre = [] ∨ ∃ q c, pre = q ++ [c] ∧ y.cps.contains c = false) : csx (Txt.rstripChars x y) = pre := by
  have e : Txt.rstripChars x y = strSub x (stripLo y.cps.contains false x) (stripHi y.cps.contains true x (stripLo y.cps.contains false x)) := stripBy_eq _ _ _ x
  have hlo : stripLo y.cps.contains false x = 0 := rfl
  have hlen : x.length = pre.length + w.length := by rw [csx_len, hx, List.length_append]
  have htw : ((csx x).reverse.takeWhile y.cps.contains).length = w.length := by
    rw [hx, List.reverse_append, List.takeWhile_append_of_pos fun c hc => hw c (List.mem_reverse.mp hc), List.length_append, List.length_reverse]
    rcases hp with rfl | ⟨q, c, rfl, hc⟩
    · simp
    · have : List.takeWhile y.cps.contains (c :: q.reverse) = [] := by
        rw [List.takeWhile_cons, hc]
        rfl
      rw [List.reverse_append]
      show w.length + (List.takeWhile y.cps.contains (c :: q.reverse)).length = _
      rw [this]
      rfl
  have hhi : stripHi y.cps.contains true x 0 = pre.length := by
    have : x.cps.toList = csx x := rfl
    simp only [stripHi, if_true, this]
    rw [List.drop_zero, htw, hlen]
    omega
  rw [e, hlo, hhi]
  show (x.cps.extract 0 pre.length).toList = pre
  have : x.cps.toList = pre ++ w := hx
  rw [Array.toList_extract, this]
  simp
end K1

namespace K1
open PySem PySem.Spec PyProof.Rows L2 Ls
def letS : Str := "abcdefghijklmnopqrstuvwxyz0123456789"
theorem let_sub : ∀ c < 128, (Df.isSmall c = true ∨ Df.isFig c = true) → letS.cps.contains c = true := by decide +kernel
theorem let_sup : ∀ c ∈ letS.cps.toList, Df.isSmall c = true ∨ Df.isFig c = true := by decide +kernel
theorem let_in {c : Nat} (h : Df.isSmall c = true ∨ Df.isFig c = true) : letS.cps.contains c = true := by
  refine let_sub c ?_ h
  rcases h with h | h
  · simp only [Df.isSmall, Bool.and_eq_true, decide_eq_true_eq] at h
    omega
  · simp only [Df.isFig, Bool.and_eq_true, decide_eq_true_eq] at h
    omega
theorem let_out {c : Nat} (h1 : Df.isSmall c = false) (h2 : Df.isFig c = false) : letS.cps.contains c = false := by
  cases e : letS.cps.contains c with
  | false => rfl
  | true =>
    have hm : c ∈ letS.cps.toList := by
      rw [Array.contains_iff_mem] at e
      exact Array.mem_toList_iff.mpr e
    rcases let_sup c hm with h | h
    · rw [h1] at h; cases h
    · rw [h2] at h; cases h
/-- the law's cut of a text that doesn't end with ) -/
theorem rstrip_last {x : Str} {pre w : List Nat} (hx : csx x = pre ++ w) (h : Df.LastW pre w) (h41 : w ≠ [41]) : csx (Txt.rstripChars x letS) = pre := by
  rcases h with h | ⟨_, hw, q, c, e, h1, h2⟩
  · exact absurd h h41
  · exact rstrip_pre hx (fun c hc => let_in (hw c hc)) (.inr ⟨q, c, e, let_out h1 h2⟩)
end K1

namespace Df
open PySem
theorem wide_len : ∀ l : List Nat, (l.flatMap wideF).length ≤ 3 * l.length
  | [] => Nat.le_refl _
  | a :: l => by
    have ih := wide_len l
    have h : (wideF a).length ≤ 3 := by
      unfold wideF
      split
      · exact Nat.le_refl _
      · split
        · exact Nat.le_refl _
        · split
          · exact Nat.le_refl _
          · show 1 ≤ 3; omega
    rw [List.flatMap_cons, List.length_append, List.length_cons]
    omega
theorem rep2_len : ∀ l : List Nat, (rep2 l).length ≤ l.length
  | [] => by rw [rep2]; exact Nat.le_refl _
  | [c] => by rw [rep2]; exact Nat.le_refl _
  | c :: d :: r => by
    rw [rep2]
    split
    · have := rep2_len r
      simp only [List.length_cons]
      omega
    · have := rep2_len (d :: r)
      simp only [List.length_cons] at this ⊢
      omega
theorem rep3_len : ∀ l : List Nat, (rep3 l).length ≤ l.length
  | [] => by rw [rep3]; exact Nat.le_refl _
  | [c] => by rw [rep3]; exact Nat.le_refl _
  | [c, d] => by rw [rep3]; exact Nat.le_refl _
  | c :: d :: e :: r => by
    rw [rep3]
    split
    · have := rep3_len r
      simp only [List.length_cons]
      omega
    · have := rep3_len (d :: e :: r)
      simp only [List.length_cons] at this ⊢
      omega
theorem tl33_last : ∀ p : List Nat, tl33 p = if p.getLast? = some 33 then 1 else 0
  | [] => rfl
  | [c] => by
    simp only [tl33]
    by_cases h : c = 33 <;> simp [h]
  | a :: b :: r => by
    have ih := tl33_last (b :: r)
    show tl33 (b :: r) = _
    rw [ih]
    rfl
end Df

namespace K1
open PySem PySem.Spec PyProof.Rows L2 Ls
mutual
theorem dep_fm : ∀ f : Df.Fm, PyData.depth (fmD f) ≤ 2 * Df.ht f + 2
  | .cmp op l r => by simp [fmD, atD, PyData.depth, PyData.depthAll, Df.ht]
  | .no f => by
    have := dep_fm f
    simp only [fmD, PyData.depth, PyData.depthAll, Df.ht]
    omega
  | .q k n f => by
    have := dep_fm f
    simp only [fmD, PyData.depth, PyData.depthAll, Df.ht]
    omega
  | .row k fs => by
    have := dep_fms fs
    simp only [fmD, PyData.depth, PyData.depthAll, Df.ht]
    omega
theorem dep_fms : ∀ fs : List Df.Fm, PyData.depthAll (fmDs fs) ≤ 2 * Df.hts fs + 2
  | [] => by simp [fmDs, PyData.depthAll]
  | f :: fs => by
    have h1 := dep_fm f
    have h2 := dep_fms fs
    simp only [fmDs, PyData.depthAll, Df.hts]
    omega
end
theorem fm_shaped {N : Addr → Prop} {H : Hp} {v : V} {f : Df.Fm} (h : Dt N H v (fmD f)) (hh : Df.ht f ≤ 20) : PySem.SeqAt.shaped (fmD f) = true ∧ PyData.eqv (fmD f) (fmD f) = true := by
  have hl := Dt.lay h
  have hd := dep_fm f
  unfold PySem.SeqAt.shaped
  refine ⟨?_, PySem.SeqAt.eqv_refl _ hl⟩
  rw [hl, Bool.true_and]
  exact decide_eq_true (by omega)
end K1

namespace Df
open PySem
theorem addAll_take (xs : List Str) {j : Nat} (h : j < xs.length) : addAll [] (xs.take (j + 1)) = addD (addAll [] (xs.take j)) xs[j] := by
  rw [← List.take_append_getElem h, addAll_app]
  rfl
theorem addD_mem {fo : List Str} {x y : Str} : y ∈ addD fo x ↔ y ∈ fo ∨ y = x := by
  unfold addD
  split
  · rename_i h
    have h : x ∈ fo := by simpa using h
    constructor
    · exact .inl
    · rintro (h1 | rfl)
      · exact h1
      · exact h
  · simp
theorem addAll_mem : ∀ (xs fo : List Str) (y : Str), y ∈ addAll fo xs ↔ y ∈ fo ∨ y ∈ xs
  | [], fo, y => by simp [addAll]
  | x :: xs, fo, y => by
    have ih := addAll_mem xs (addD fo x) y
    show y ∈ addAll (addD fo x) xs ↔ _
    rw [ih, addD_mem]
    simp [or_assoc]
theorem addD_in {fo : List Str} {x : Str} (h : x ∈ fo) : addD fo x = fo := by
  unfold addD
  rw [if_pos (by simpa using h)]
theorem addD_out {fo : List Str} {x : Str} (h : x ∉ fo) : addD fo x = fo ++ [x] := by
  unfold addD
  rw [if_neg (by simpa using h)]
end Df
namespace K1
open PySem PySem.Spec PyProof.Rows L2 Ls
/-! ### the law's slices, on signs -/
theorem cutC_upto (x : Str) {i : Nat} (hi : i ≤ x.length) : csx (cutS x none (some (i : Int))) = (csx x).take i := by
  show ((((csx x).drop (HT.sIx x.length 0 none)).take (HT.sIx x.length x.length (some (i : Int)) - HT.sIx x.length 0 none)).toArray).toList = _
  rw [HT.sIx_nat, HT.sIx_none, List.drop_zero, Nat.sub_zero, Nat.min_eq_left hi]
theorem cutC_from (x : Str) {i : Nat} (hi : i ≤ x.length) : csx (cutS x (some (i : Int)) none) = (csx x).drop i := by
  show ((((csx x).drop (HT.sIx x.length 0 (some (i : Int)))).take (HT.sIx x.length x.length none - HT.sIx x.length 0 (some (i : Int)))).toArray).toList = _
  rw [HT.sIx_nat, HT.sIx_none, Nat.min_eq_left hi]
  show ((csx x).drop i).take (x.length - i) = _
  exact List.take_of_length_le (by rw [List.length_drop, csx_len x]; exact Nat.le_refl _)
theorem sIx_last (n d : Nat) : HT.sIx n d (some (-1)) = n - 1 := by
  show (if (-1 : Int) < 0 then ((-1 : Int) + (n : Int)).toNat else min (-1 : Int).toNat n) = _
  rw [if_pos (by decide)]
  omega
theorem cutC_last (x : Str) : csx (cutS x (some (-1)) none) = (csx x).drop (x.length - 1) := by
  show ((((csx x).drop (HT.sIx x.length 0 (some (-1)))).take (HT.sIx x.length x.length none - HT.sIx x.length 0 (some (-1)))).toArray).toList = _
  rw [sIx_last, HT.sIx_none]
  show ((csx x).drop (x.length - 1)).take (x.length - (x.length - 1)) = _
  exact List.take_of_length_le (by rw [List.length_drop, csx_len x]; exact Nat.le_refl _)
theorem cutC_but (x : Str) : csx (cutS x none (some (-1))) = (csx x).dropLast := by
  show ((((csx x).drop (HT.sIx x.length 0 none)).take (HT.sIx x.length x.length (some (-1)) - HT.sIx x.length 0 none)).toArray).toList = _
  rw [sIx_last, HT.sIx_none, List.drop_zero, Nat.sub_zero, List.dropLast_eq_take, csx_len x]
theorem drop_last1 : ∀ l : List Nat, l.drop (l.length - 1) = [33] ↔ l.getLast? = some 33 := by
  intro l
  rcases List.eq_nil_or_concat l with rfl | ⟨q, c, rfl⟩
  · simp
  · rw [List.concat_eq_append]
    rw [List.length_append, List.length_singleton, Nat.add_sub_cancel, List.drop_left, List.getLast?_append]
    simp
theorem one_sign {z : Str} {c : Nat} (y : Str) (hy : csx y = [c]) : z = y ↔ csx z = [c] := ⟨fun e => by rw [e, hy], fun e => Df.csS_inj (e.trans hy.symm)⟩
/-- text[:at][-1:] == '!' -/
theorem is_bang (x : Str) {i : Nat} (hi : i ≤ x.length) : decide (V.str (cutS (cutS x none (some (i : Int))) (some (-1)) none) = V.str "!") = decide (Df.tl33 ((csx x).take i) = 1) := by
  have e : (cutS (cutS x none (some (i : Int))) (some (-1)) none = ("!" : Str)) ↔ Df.tl33 ((csx x).take i) = 1 := by
    rw [one_sign (c := 33) ("!" : Str) rfl, cutC_last, csx_len (cutS x none (some (i : Int))), cutC_upto x hi, drop_last1, Df.tl33_last]
    by_cases h : ((csx x).take i).getLast? = some 33 <;> simp [h]
  rw [decide_eq_decide]
  refine Iff.trans ?_ e
  constructor
  · intro h
    injection h
  · intro h
    rw [h]
/-- the law's seven strange signs -/
theorem strange_all : ∀ s ∈ (["#", "A", ".", "!", "*", ";", "_"] : List Str), csx s = [(csx s).headD 0] ∧ Df.strange ((csx s).headD 0) = true := by decide +kernel
/-- a strange sign and a blank put in are refused where the law says -/
theorem text_put {f : Df.Fm} {d i : Nat} (h : Df.OkF [] f) (hs : Df.Siz d f) (hd : d ≤ 4) {x y sg : Str} (hx : csx x = Df.fmC false f) (hi : i ≤ x.length) (hsg : sg ∈ (["#", "A", ".", "!", "*", ";", "_"] : List Str)) (hy : csx y = (csx x).take i ++ csx sg ++ [32] ++ (csx x).drop i) :
    TxOk y ∧ readT 30 y ≠ none ∧ refB 30 y (if Df.tl33 ((csx x).take i) = 1 then (i : Int) else (i : Int) + 1) = true := by
  obtain ⟨hc, hst⟩ := strange_all sg hsg
  generalize (csx sg).headD 0 = c at hc hst
  have := Df.sizes hd
  have hcl := hs.c
  have hcf := Df.fmC_ft f
  have hxl : x.length ≤ 6000 := by rw [csx_len, hx]; omega
  have hpl : ((csx x).take i).length = i := by rw [List.length_take, ← csx_len x]; omega
  have hyl : y.length ≤ 100000 := by
    rw [csx_len, hy, hc]
    simp only [List.length_append, List.length_cons, List.length_nil, List.length_drop, hpl, ← csx_len x]
    omega
  have hg : Df.gdB ((csx x).take i) = true := Df.gd_take i (by rw [hx]; exact Df.gd_fm h)
  obtain ⟨t, r⟩ := text_strange (d := 30) (s := c) (p := (csx x).take i) (t := 32 :: (csx x).drop i) (x := y) hst (by simp) hg (by rw [hy, hc]; simp) hyl
  refine ⟨t, by rw [r]; simp, ?_⟩
  unfold refB
  rw [r, hpl]
  have ht := Df.tl33_last ((csx x).take i)
  by_cases e : ((csx x).take i).getLast? = some 33
  · rw [if_pos e] at ht
    have hi0 : 1 ≤ i := by
      cases i with
      | zero => simp at e
      | succ i => omega
    rw [ht, if_pos rfl]
    exact decide_eq_true (by omega)
  · rw [if_neg e] at ht
    rw [ht, if_neg (by decide)]
    exact decide_eq_true (by omega)
end K1

namespace K1
open PySem PySem.Spec PyProof.Rows L2 Ls
/-! ### the law, from its end -/
def lawN : List Str := ["script", "names", "turn", "tree", "text", "due", "free", "at", "name", "wide", "sign", "column", "last"]
/-- the body of its loop -/
def forB : Stmt → List Stmt
  | PySem.Stmt.For _ _ b _ _ => b
  | _ => []
def lawB : List Stmt := forB ((defBody s_law).getD 1 (.Pass ⟨0, 0, 0, 0⟩))
theorem text_len {f : Df.Fm} {d : Nat} (hs : Df.Siz d f) (hd : d ≤ 4) {x : Str} (hx : csx x = Df.fmC false f) : x.length ≤ 6000 := by
  have := Df.sizes hd
  have hc := hs.c
  have hcf := Df.fmC_ft f
  rw [csx_len, hx]
  omega
/-- what stands there in the law -/
structure LC (K : PySem.W.Frag) (Pt a n : Addr) (zs : List Int) (ns : List Str) (H : Hp) : Prop where
  s : Scr K H a zs
  n : NmT H n ns
  t : GxR.TabG H Pt
section
variable {K : PySem.W.Frag} {Pt a n : Addr} {zs : List Int} {ns : List Str} {H H' : Hp}
theorem LC.mono (c : LC K Pt a n zs ns H) (s : Same H H') : LC K Pt a n zs ns H' := ⟨c.s.mono s, c.n.mono s, TabG.mono c.t s⟩
theorem LC.ne {b : Addr} {o : HO} (c : LC K Pt a n zs ns H) (h : H b = some o) (ho : ∀ ps, o ≠ .tbl ps) : b ≠ Pt := fun z => by
  obtain ⟨ps, e, _⟩ := c.t
  rw [z, e] at h
  exact ho ps (Option.some.inj h).symm
theorem LC.kt (c : LC K Pt a n zs ns H) (k : Kt Pt H H') (t : GxR.TabG H' Pt) : LC K Pt a n zs ns H' := by
  refine ⟨⟨?_, c.s.2⟩, ⟨k _ _ (c.ne c.n.1 fun _ z => by cases z) c.n.1, c.n.2⟩, t⟩
  rcases c.s.1 with h | h
  · rcases h with h | ⟨o, h⟩
    · exact .inl (.inl (k _ _ (c.ne h fun _ z => by cases z) h))
    · exact .inl (.inr ⟨o, k _ _ (c.ne h fun _ z => by cases z) h⟩)
  · exact .inr h
/-- a formula stays under such a step -/
theorem LC.fm {N : Addr → Prop} (c : LC K Pt a n zs ns H) (k : Kt Pt H H') {f : Df.Fm} {v : V} (h : Dt N H v (fmD f)) : Dt N H' v (fmD f) := fm_to (fun b xs _ e => k _ _ (c.ne e fun _ z => by cases z) e) f h
end
/-- the loop goes on -/
def NxL (K : PySem.W.Frag) (Pt a n : Addr) (zs : List Int) (ns : List Str) (tv : Int) (D : Ends) : Prop := ∀ H' z3 z4 z5 z6 z7 z8 z9 z10 z11 z12, LC K Pt a n zs ns H' → D.nx [some (.ref a), some (.ref n), some (.int tv), z3, z4, z5, z6, z7, z8, z9, z10, z11, z12] H'
section
variable {P : Program} {w : World} {K : PySem.W.Frag} {mg : Str → Option Value} {base : Heap} {f Pt CE CL : Addr} {fd : FuncData} {k : Nat}
theorem sc_law : FnScope ["script", "names", "turn", "tree", "text", "due", "free", "at", "name", "wide", "sign", "column", "last"] ["script"] (defScope s_law) := ⟨rfl, rfl, rfl, by decide +kernel, rfl, by decide +kernel, by decide +kernel⟩
theorem lawB13 (G : Facts mg) (C_u_law_draw : Cal P w K mg base 1 "_law_draw" (spDraw K) []) (C_u_law_known : Cal P w K mg base 1 "_law_known" spKnown []) (C_u_law_refused : Cal P w K mg base 131 "_law_refused" (spLRef Pt 30) [])
    {f : Addr} {cdv : Value} {A : Around} {outer : List Env} {s : Shared} {H0 : Hp} {E : XK} (hr : Room 131 (A.deeper (envOfC "law" (defScope s_law) s.heap.objs.size f cdv))) :
    ∃ t, PSs (cxOf CX0 P w K mg base lawN "law" (defScope s_law) f cdv A outer s H0 E).nox (lawB.drop 13) t ∧
      ∀ (D : Ends) (H : Hp) (a n : Addr) (zs : List Int) (ns : List Str) (tv : Int) (y3 y4 y5 y6 y7 y8 y9 y10 y11 y12 : Option V), LC K Pt a n zs ns H → NxL K Pt a n zs ns tv D →
        t D [some (.ref a), some (.ref n), some (.int tv), y3, y4, y5, y6, y7, y8, y9, y10, y11, y12] H := by
  have hu := hu_of hr
  refine ⟨_, (pss_cons (ps_asg (pe_c C_u_law_known hr (by decide) (by rfl) (pa_cons (pe_c C_u_law_draw hr (by decide) (by rfl) (pa_cons (pv 0) (pa_cons (pe_op op_add pe_int (pv 2)) (pa_cons pe_int pa_nil)))) pa_nil)) (kpg_tup K rfl (pgs_cons (pg_name (i := 4) sc_law.nd rfl (by first | exact .inl rfl | exact .inr rfl)) (pgs_cons (pg_name (i := 11) sc_law.nd rfl (by first | exact .inl rfl | exact .inr rfl)) pgs_nil))))
      (pss_one (ps_if (pt_not (pt_val (pe_c C_u_law_refused hr (by decide) (by rfl) (pa_cons (pv 4) (pa_cons (pv 11) pa_nil))))) (pss_one (ps_ret pe_bl)) pss_nil))), ?_⟩
  intro D H a n zs ns tv y3 y4 y5 y6 y7 y8 y9 y10 y11 y12 c hk
  refine ⟨_, rfl, _, rfl, _, _, rfl, rfl, a, zs, _, 34, rfl, c.s, by decide, fun H1 d s1 d0 d1 => ?_⟩
  refine ⟨_, rfl, fun H2 t x col s2 ht hm => ?_⟩
  have c2 := c.mono (s1.trans s2)
  refine ⟨t, _, rfl, sqt ht, rfl, ?_⟩
  refine ⟨_, _, rfl, _, _, rfl, rfl, _, rfl, _, rfl, x, col, rfl, known_read hm, c2.t, (known_ok hm).2, fun H3 k3 t3 => ?_⟩
  rw [(known_ok hm).1]
  exact ⟨_, rfl, iteF (hk _ _ _ _ _ _ _ _ _ _ _ (c2.kt k3 t3))⟩
end
end K1

namespace K1
open PySem PySem.Spec PyProof.Rows L2 Ls
/-- the law's text without its last word -/
theorem text_last {f : Df.Fm} {d : Nat} (h : Df.OkF [] f) (hs : Df.Siz d f) (hd : d ≤ 4) {x : Str} (hx : csx x = Df.fmC false f) :
    ∃ q c, csx x = q ++ [c] ∧ (c = 41 → ∀ y : Str, csx y = q → TxOk y ∧ readT 30 y ≠ none ∧ refB 30 y ((y.length : Int) + 1) = true) ∧
      (c ≠ 41 → TxOk (Txt.rstripChars x letS) ∧ readT 30 (Txt.rstripChars x letS) ≠ none ∧ refB 30 (Txt.rstripChars x letS) (((Txt.rstripChars x letS).length : Int) + 1) = true) := by
  obtain ⟨pre, w, e, hl, hk⟩ := text_cut h hs hd
  have key : ∀ y : Str, csx y = pre → TxOk y ∧ readT 30 y ≠ none ∧ refB 30 y ((y.length : Int) + 1) = true := fun y hy => by
    obtain ⟨t, r⟩ := hk y hy
    refine ⟨t, by rw [r]; simp, ?_⟩
    unfold refB
    rw [r]
    exact decide_eq_true (by omega)
  have hxe : csx x = pre ++ w := hx.trans e
  have hl0 := hl
  rcases hl with rfl | ⟨hne, hw, _⟩
  · exact ⟨pre, 41, hxe, fun _ => key, fun z => absurd rfl z⟩
  · rcases List.eq_nil_or_concat w with rfl | ⟨v, c, rfl⟩
    · exact absurd rfl hne
    · rw [List.concat_eq_append] at hxe hw hl0
      have h41 : c ≠ 41 := fun z => by
        rcases hw c (by simp) with q | q
        · rw [z] at q
          exact absurd q (by decide +kernel)
        · rw [z] at q
          exact absurd q (by decide +kernel)
      refine ⟨pre ++ v, c, by rw [hxe, List.append_assoc], fun z => absurd z h41, fun _ => key _ (rstrip_last hxe hl0 fun z => ?_)⟩
      have := congrArg (fun l => l.getLast?) z
      simp at this
      exact h41 this
section
variable {P : Program} {w : World} {K : PySem.W.Frag} {mg : Str → Option Value} {base : Heap} {f Pt CE CL : Addr} {fd : FuncData} {k : Nat}
theorem lawB11 (G : Facts mg) (C_u_law_draw : Cal P w K mg base 1 "_law_draw" (spDraw K) []) (C_u_law_known : Cal P w K mg base 1 "_law_known" spKnown []) (C_u_law_refused : Cal P w K mg base 131 "_law_refused" (spLRef Pt 30) [])
    {f : Addr} {cdv : Value} {A : Around} {outer : List Env} {s : Shared} {H0 : Hp} {E : XK} (hr : Room 131 (A.deeper (envOfC "law" (defScope s_law) s.heap.objs.size f cdv))) :
    ∃ t, PSs (cxOf CX0 P w K mg base lawN "law" (defScope s_law) f cdv A outer s H0 E).nox (lawB.drop 11) t ∧
      ∀ (D : Ends) (H : Hp) (a n : Addr) (zs : List Int) (ns : List Str) (tv : Int) (x : Str) (fm : Df.Fm) (d : Nat) (y3 y5 y6 y7 y8 y9 y10 y11 y12 : Option V), LC K Pt a n zs ns H → NxL K Pt a n zs ns tv D →
        Df.OkF [] fm → Df.Siz d fm → d ≤ 4 → csx x = Df.fmC false fm →
        t D [some (.ref a), some (.ref n), some (.int tv), y3, some (.str x), y5, y6, y7, y8, y9, y10, y11, y12] H := by
  have hu := hu_of hr
  obtain ⟨t13, p13, h13⟩ := lawB13 (outer := outer) (H0 := H0) (E := E) G C_u_law_draw C_u_law_known C_u_law_refused hr
  refine ⟨_, (pss_cons (ps_set (i := 12) sc_law.nd rfl (.inl rfl) (pe_ifExp (pt_cmpR op_eq (pe_ix ix_str (pv 4) (pe_un un_neg pe_int) (fun _ _ => rfl)) pe_str (nomark _)) (pe_slice sl_str (pv 4) po_none (po_some (pe_un un_neg pe_int))) (pe_bm PySem.F.plainAttrs_str PySem.F.slot_str_rstrip PySem.F.type_str_rstrip mt_rstripChars (pv 4) (pa_cons pe_str pa_nil))))
      (pss_cons (ps_if (pt_not (pt_val (pe_c C_u_law_refused hr (by decide) (by rfl) (pa_cons (pv 12) (pa_cons (pe_op op_add (pe_callB call_len_str (by rfl) G.len_ PySem.boot_len (pa_cons (pv 12) pa_nil)) pe_int) pa_nil))))) (pss_one (ps_ret pe_bl)) pss_nil)
      p13)), ?_⟩
  intro D H a n zs ns tv x fm d y3 y5 y6 y7 y8 y9 y10 y11 y12 c hk hf hs hd hx
  have hxl := text_len hs hd hx
  obtain ⟨q, c1, hq, k1, k2⟩ := text_last hf hs hd hx
  refine ⟨_, rfl, _, rfl, x, _, c1, rfl, rfl, szl (by omega), (by show atI (csx x) (-1) = some c1; rw [hq]; exact atI_last q c1), rfl, _, rfl, ?_⟩
  by_cases h41 : c1 = 41
  · rw [show decide (V.str ⟨#[c1]⟩ = V.str ")") = true by rw [h41]; exact decide_eq_true rfl]
    have hy : csx (cutS x none (some (-1))) = q := by rw [cutC_but, hq]; simp
    refine iteT ⟨_, rfl, _, rfl, _, rfl, x, rfl, szl (by omega), ?_⟩
    obtain ⟨t, r, e⟩ := k1 h41 _ hy
    generalize cutS x none (some (-1)) = y at t r e ⊢
    have hyl : y.length ≤ 100000 := t.len
    refine ⟨_, rfl, _, rfl, y, rfl, szl (by omega), _, _, rfl, rfl, y, _, rfl, t, c.t, r, fun H' k3 t3 => ?_⟩
    rw [e]
    exact ⟨_, rfl, iteF (h13 D H' a n zs ns tv _ _ _ _ _ _ _ _ _ _ (c.kt k3 t3) hk)⟩
  · rw [show decide (V.str ⟨#[c1]⟩ = V.str ")") = false from decide_eq_false fun z => h41 (by injection z with z; exact List.cons.inj (congrArg csx z) |>.1)]
    refine iteF ⟨_, rfl, tyStr _ _, x, letS, rfl, rfl, szl (by omega), ?_⟩
    obtain ⟨t, r, e⟩ := k2 h41
    generalize Txt.rstripChars x letS = y at t r e ⊢
    have hyl : y.length ≤ 100000 := t.len
    refine ⟨_, rfl, _, rfl, y, rfl, szl (by omega), _, _, rfl, rfl, y, _, rfl, t, c.t, r, fun H' k3 t3 => ?_⟩
    rw [e]
    exact ⟨_, rfl, iteF (h13 D H' a n zs ns tv _ _ _ _ _ _ _ _ _ _ (c.kt k3 t3) hk)⟩
end
end K1

namespace K1
open PySem PySem.Spec PyProof.Rows L2 Ls
theorem text_par {f : Df.Fm} {d : Nat} (h : Df.OkF [] f) (hs : Df.Siz d f) (hd : d ≤ 4) {x y : Str} (hx : csx x = Df.fmC false f) (hy : csx y = csx x ++ [32, 41]) : TxOk y ∧ readT 30 y ≠ none ∧ refB 30 y ((x.length : Int) + 2) = true := by
  obtain ⟨t, r⟩ := text_more h hs hd (x := y) (by rw [hy, hx])
  have hl : y.length = x.length + 2 := by rw [csx_len, hy, List.length_append, ← csx_len x]; rfl
  refine ⟨t, by rw [r]; simp, ?_⟩
  unfold refB
  rw [r]
  exact decide_eq_true (by omega)
section
variable {P : Program} {w : World} {K : PySem.W.Frag} {mg : Str → Option Value} {base : Heap} {f Pt CE CL : Addr} {fd : FuncData} {k : Nat}
theorem lawB10 (G : Facts mg) (C_u_law_draw : Cal P w K mg base 1 "_law_draw" (spDraw K) []) (C_u_law_known : Cal P w K mg base 1 "_law_known" spKnown []) (C_u_law_refused : Cal P w K mg base 131 "_law_refused" (spLRef Pt 30) [])
    {f : Addr} {cdv : Value} {A : Around} {outer : List Env} {s : Shared} {H0 : Hp} {E : XK} (hr : Room 131 (A.deeper (envOfC "law" (defScope s_law) s.heap.objs.size f cdv))) :
    ∃ t, PSs (cxOf CX0 P w K mg base lawN "law" (defScope s_law) f cdv A outer s H0 E).nox (lawB.drop 10) t ∧
      ∀ (D : Ends) (H : Hp) (a n : Addr) (zs : List Int) (ns : List Str) (tv : Int) (x sg : Str) (i : Nat) (fm : Df.Fm) (d : Nat) (y3 y5 y6 y8 y9 y12 : Option V), LC K Pt a n zs ns H → NxL K Pt a n zs ns tv D →
        Df.OkF [] fm → Df.Siz d fm → d ≤ 4 → csx x = Df.fmC false fm → i ≤ x.length → sg ∈ (["#", "A", ".", "!", "*", ";", "_"] : List Str) →
        t D [some (.ref a), some (.ref n), some (.int tv), y3, some (.str x), y5, y6, some (.int (i : Nat)), y8, y9, some (.str sg), some (.int (if Df.tl33 ((csx x).take i) = 1 then (i : Int) else (i : Int) + 1)), y12] H := by
  have hu := hu_of hr
  obtain ⟨t11, p11, h11⟩ := lawB11 (outer := outer) (H0 := H0) (E := E) G C_u_law_draw C_u_law_known C_u_law_refused hr
  refine ⟨_, (pss_cons (ps_if (PW.pt (pw_or (pt_not (pt_val (pe_c C_u_law_refused hr (by decide) (by rfl) (pa_cons (pe_op op_add_str (pe_op op_add_str (pe_op op_add_str (pe_slice sl_str (pv 4) po_none (po_some (pv 7))) (pv 10)) pe_str) (pe_slice sl_str (pv 4) (po_some (pv 7)) po_none)) (pa_cons (pv 11) pa_nil))))) (pw_or1 (pt_not (pt_val (pe_c C_u_law_refused hr (by decide) (by rfl) (pa_cons (pe_op op_add_str (pv 4) pe_str) (pa_cons (pe_op op_add (pe_callB call_len_str (by rfl) G.len_ PySem.boot_len (pa_cons (pv 4) pa_nil)) pe_int) pa_nil)))))))) (pss_one (ps_ret pe_bl)) pss_nil)
      p11), ?_⟩
  intro D H a n zs ns tv x sg i fm d y3 y5 y6 y8 y9 y12 c hk hf hs hd hx hi hsg
  have hxl := text_len hs hd hx
  have hc1 := (strange_all sg hsg).1
  have hsl : sg.length = 1 := by rw [csx_len, hc1]; rfl
  have e1 : csx (cutS x none (some (i : Int))) = (csx x).take i := cutC_upto x hi
  have e2 : csx (cutS x (some (i : Int)) none) = (csx x).drop i := cutC_from x hi
  have l1 := cutS_length x none (some (i : Int))
  have l2 := cutS_length x (some (i : Int)) none
  refine ⟨_, rfl, _, rfl, _, rfl, x, rfl, szl (by omega), _, rfl, _, _, rfl, rfl, szl (by omega), _, _, rfl, rfl, szl (by rw [app_len, hsl, len_bl]; omega), _, rfl, _, rfl, _, rfl, x, rfl, szl (by omega), _, _, rfl, rfl, szl (by rw [app_len, app_len, hsl, len_bl]; omega), _, rfl, ?_⟩
  generalize cutS x none (some (i : Int)) = xa at e1 l1 ⊢
  generalize cutS x (some (i : Int)) none = xb at e2 l2 ⊢
  obtain ⟨t, r, e⟩ := text_put hf hs hd (y := xa ++ sg ++ " " ++ xb) hx hi hsg (by rw [app_cs, app_cs, app_cs, e1, e2]; rfl)
  refine ⟨_, _, rfl, t, c.t, r, fun H1 k1 t1 => ?_⟩
  rw [e]
  have c1 := c.kt k1 t1
  refine ⟨_, rfl, iteF ?_⟩
  refine ⟨_, rfl, _, _, rfl, rfl, szl (by rw [show (" )" : Str).length = 2 from rfl]; omega), _, rfl, x, rfl, szl (by omega), _, _, rfl, rfl, ?_⟩
  obtain ⟨t, r, e⟩ := text_par hf hs hd (y := x ++ " )") hx (by rw [app_cs]; rfl)
  refine ⟨_, _, rfl, t, c1.t, r, fun H2 k2 t2 => ?_⟩
  rw [e]
  have c2 := c1.kt k2 t2
  exact ⟨_, rfl, iteF (h11 D H2 a n zs ns tv x fm d _ _ _ _ _ _ _ _ _ c2 hk hf hs hd hx)⟩
theorem lawB7 (G : Facts mg) (C_u_law_draw : Cal P w K mg base 1 "_law_draw" (spDraw K) []) (C_u_law_known : Cal P w K mg base 1 "_law_known" spKnown []) (C_u_law_refused : Cal P w K mg base 131 "_law_refused" (spLRef Pt 30) [])
    {f : Addr} {cdv : Value} {A : Around} {outer : List Env} {s : Shared} {H0 : Hp} {E : XK} (hr : Room 131 (A.deeper (envOfC "law" (defScope s_law) s.heap.objs.size f cdv))) :
    ∃ t, PSs (cxOf CX0 P w K mg base lawN "law" (defScope s_law) f cdv A outer s H0 E).nox (lawB.drop 7) t ∧
      ∀ (D : Ends) (H : Hp) (a n : Addr) (zs : List Int) (ns : List Str) (tv : Int) (x : Str) (fm : Df.Fm) (d : Nat) (y3 y5 y6 y7 y8 y9 y10 y11 y12 : Option V), LC K Pt a n zs ns H → NxL K Pt a n zs ns tv D →
        Df.OkF [] fm → Df.Siz d fm → d ≤ 4 → csx x = Df.fmC false fm →
        t D [some (.ref a), some (.ref n), some (.int tv), y3, some (.str x), y5, y6, y7, y8, y9, y10, y11, y12] H := by
  have hu := hu_of hr
  obtain ⟨t10, p10, h10⟩ := lawB10 (outer := outer) (H0 := H0) (E := E) G C_u_law_draw C_u_law_known C_u_law_refused hr
  refine ⟨_, (pss_cons (ps_set (i := 7) sc_law.nd rfl (.inl rfl) (pe_c C_u_law_draw hr (by decide) (by rfl) (pa_cons (pv 0) (pa_cons (pe_op op_add pe_int (pv 2)) (pa_cons (pe_op op_add (pe_callB call_len_str (by rfl) G.len_ PySem.boot_len (pa_cons (pv 4) pa_nil)) pe_int) pa_nil)))))
      (pss_cons (ps_set (i := 10) sc_law.nd rfl (.inl rfl) (pe_ix (kIxT K) (pe_tup (pa_cons pe_str (pa_cons pe_str (pa_cons pe_str (pa_cons pe_str (pa_cons pe_str (pa_cons pe_str (pa_cons pe_str pa_nil)))))))) (pe_c C_u_law_draw hr (by decide) (by rfl) (pa_cons (pv 0) (pa_cons (pe_op op_add pe_int (pv 2)) (pa_cons pe_int pa_nil)))) (fun _ _ => rfl)))
      (pss_cons (ps_set (i := 11) sc_law.nd rfl (.inl rfl) (pe_ifExp (pt_cmpR op_eq (pe_slice sl_str (pe_slice sl_str (pv 4) po_none (po_some (pv 7))) (po_some (pe_un un_neg pe_int)) po_none) pe_str (nomark _)) (pv 7) (pe_op op_add (pv 7) pe_int)))
      p10))), ?_⟩
  intro D H a n zs ns tv x fm d y3 y5 y6 y7 y8 y9 y10 y11 y12 c hk hf hs hd hx
  have hxl := text_len hs hd hx
  refine ⟨_, rfl, _, rfl, _, _, rfl, rfl, _, rfl, x, rfl, szl (by omega), _, _, rfl, rfl, a, zs, _, _, rfl, c.s, by omega, fun H1 i s1 i0 i1 => ?_⟩
  have c1 := c.mono s1
  obtain ⟨i, rfl⟩ := Int.eq_ofNat_of_zero_le i0
  have hi : i ≤ x.length := by omega
  refine ⟨by show 7 ≤ sizeLine; decide, fun t nt => ?_⟩
  have s2 := same_upd nt (o := .tup [V.str "#", V.str "A", V.str ".", V.str "!", V.str "*", V.str ";", V.str "_"])
  have ht : upd H1 t (.tup [V.str "#", V.str "A", V.str ".", V.str "!", V.str "*", V.str ";", V.str "_"]) t = some (.tup [V.str "#", V.str "A", V.str ".", V.str "!", V.str "*", V.str ";", V.str "_"]) := upd_same
  have c2 := c1.mono s2
  generalize upd H1 t (.tup [V.str "#", V.str "A", V.str ".", V.str "!", V.str "*", V.str ";", V.str "_"]) = H2 at ht c2 ⊢
  refine ⟨_, rfl, _, rfl, _, _, rfl, rfl, a, zs, _, 7, rfl, c2.s, by decide, fun H3 j s3 j0 j1 => ?_⟩
  have c3 := c2.mono s3
  obtain ⟨j, rfl⟩ := Int.eq_ofNat_of_zero_le j0
  obtain ⟨sg, hsg, hm⟩ : ∃ sg, (["#", "A", ".", "!", "*", ";", "_"] : List Str)[j]? = some sg ∧ sg ∈ (["#", "A", ".", "!", "*", ";", "_"] : List Str) := by
    have hj : j < (["#", "A", ".", "!", "*", ";", "_"] : List Str).length := by show j < 7; omega
    exact ⟨_, List.getElem?_eq_getElem hj, List.getElem_mem hj⟩
  have hv : [V.str "#", V.str "A", V.str ".", V.str "!", V.str "*", V.str ";", V.str "_"][j]? = some (V.str sg) := by
    show ((["#", "A", ".", "!", "*", ";", "_"] : List Str).map V.str)[j]? = _
    rw [List.getElem?_map, hsg]
    rfl
  refine ⟨t, _, _, _, rfl, rfl, sqt (s3 _ _ ht), atI_nat hv, ?_⟩
  have l1 := cutS_length x none (some ((i : Nat) : Int))
  refine ⟨_, rfl, _, rfl, _, rfl, x, rfl, szl (by omega), _, rfl, _, rfl, _, rfl, szl (by omega), rfl, _, rfl, ?_⟩
  have eb := is_bang x hi
  have key := h10 D H3 a n zs ns tv x sg i fm d
  by_cases hb : Df.tl33 ((csx x).take i) = 1
  · rw [if_pos hb] at key
    rw [decide_eq_true hb] at eb
    change (if decide (V.str (cutS (cutS x none (some (i : Int))) (some (-1)) none) = V.str "!") = true then _ else _)
    rw [eb]
    exact iteT ⟨_, rfl, key _ _ _ _ _ _ c3 hk hf hs hd hx hi hm⟩
  · rw [if_neg hb] at key
    rw [decide_eq_false hb] at eb
    change (if decide (V.str (cutS (cutS x none (some (i : Int))) (some (-1)) none) = V.str "!") = true then _ else _)
    rw [eb]
    exact iteF ⟨_, rfl, _, _, rfl, rfl, key _ _ _ _ _ _ c3 hk hf hs hd hx hi hm⟩
end
end K1

namespace K1
open PySem PySem.Spec PyProof.Rows L2 Ls
theorem len3 : ("   " : Str).length = 3 ∧ (" ( " : Str).length = 3 ∧ (" ) " : Str).length = 3 ∧ (":" : Str).length = 1 ∧ ("=" : Str).length = 1 ∧ ("  ((" : Str).length = 4 ∧ (") ) " : Str).length = 4 := ⟨rfl, rfl, rfl, rfl, rfl, rfl, rfl⟩
/-- a formula is what it was -/
theorem fm_same {K : PySem.W.Frag} {N M : Addr → Prop} {H : Hp} {v u : V} {f : Df.Fm} (h1 : Dt N H v (fmD f)) (h2 : Dt M H u (fmD f)) (hh : Df.ht f ≤ 20) {Q : VK} (q : Q (.bl false) H) : rNeD K v u H Q := by
  obtain ⟨sh, ev⟩ := fm_shaped h1 hh
  refine ⟨_, _, h1.dp, h2.dp, sh, sh, ?_⟩
  rw [ev]
  exact q
section
variable {P : Program} {w : World} {K : PySem.W.Frag} {mg : Str → Option Value} {base : Heap} {f Pt CE CL : Addr} {fd : FuncData} {k : Nat}
theorem lawB5 (G : Facts mg) (C_u_law_draw : Cal P w K mg base 1 "_law_draw" (spDraw K) []) (C_u_law_known : Cal P w K mg base 1 "_law_known" spKnown []) (C_u_law_refused : Cal P w K mg base 131 "_law_refused" (spLRef Pt 30) []) (C_read_formula : CalX P w K mg base 130 "read_formula" (spRead CE Pt 30) [])
    {f : Addr} {cdv : Value} {A : Around} {outer : List Env} {s : Shared} {H0 : Hp} {E : XK} (hr : Room 131 (A.deeper (envOfC "law" (defScope s_law) s.heap.objs.size f cdv))) :
    ∃ t, PSsT (cxOf CX0 P w K mg base lawN "law" (defScope s_law) f cdv A outer s H0 E).nox (lawB.drop 5) t ∧
      ∀ (D : Ends) (H : Hp) (N : Addr → Prop) (a n : Addr) (zs : List Int) (ns : List Str) (tv : Int) (v : V) (x : Str) (fm : Df.Fm) (d : Nat) (y5 y6 y7 y8 y9 y10 y11 y12 : Option V), LC K Pt a n zs ns H → NxL K Pt a n zs ns tv D →
        Dt N H v (fmD fm) → Df.OkF [] fm → Df.Siz d fm → d ≤ 4 → csx x = Df.fmC false fm →
        t D [some (.ref a), some (.ref n), some (.int tv), some v, some (.str x), y5, y6, y7, y8, y9, y10, y11, y12] H := by
  have hu := hu_of hr
  obtain ⟨t7, p7, h7⟩ := lawB7 (outer := outer) (H0 := H0) (E := E) G C_u_law_draw C_u_law_known C_u_law_refused hr
  refine ⟨_, psst_cons (pst_set (i := 9) sc_law.nd rfl (.inl rfl) (CwR.pet_replT (CwR.pet_replT (CwR.pet_replC (pv 4)))))
    (psst_cons (pst_ifT (pwt_or (PTT.of (pt_cmpR (kNeD K hr.units) (pe_cx C_read_formula takes0 (fun _ _ _ _ h => h) hr (by decide) (by rfl) (pa_cons (pe_op op_add_str (pe_op op_add_str pe_str (pv 9)) pe_str) pa_nil)) (pv 3) (nomark _)))
        (pwt_or1 (ptt_cmpR (kNeD K hr.units) (pct_x C_read_formula takes0 (fun _ _ _ _ h => h) hr (by decide) (by rfl) (pat_cons (CwR.pet_replT (CwR.pet_replC (pv 4))) pat_nil)) (pv 3) (nomark _)))) (pss_one (ps_ret pe_bl)) pss_nil)
    (PSsT.of p7)), ?_⟩
  intro D H N a n zs ns tv v x fm d y5 y6 y7 y8 y9 y10 y11 y12 c hk hv hf hs hd hx
  have hxl := text_len hs hd hx
  have hh : Df.ht fm ≤ 20 := by have := hs.h; omega
  obtain ⟨z1, z2, z3, z4, z5, z6, z7⟩ := len3
  have r1 := TK.replace_len x " " "   "
  have r2 := TK.replace_len (Txt.replace x " " "   ") "(" " ( "
  rw [z1] at r1
  rw [z2] at r2
  refine ⟨_, rfl, x, rfl, by rw [z1]; omega, _, rfl, by rw [z2]; omega, _, rfl, by rw [z3]; omega, ?_⟩
  have hw := replace_wide x
  generalize Txt.replace (Txt.replace (Txt.replace x " " "   ") "(" " ( ") ")" " ) " = wd at hw ⊢
  have hwl : wd.length ≤ 18000 := by
    have := Df.wide_len (csx x)
    rw [csx_len, hw]
    rw [← csx_len x] at this
    omega
  refine ⟨_, rfl, _, _, rfl, rfl, szl (by rw [z6]; omega), _, _, rfl, rfl, szl (by rw [app_len, z6, z7]; omega), ?_⟩
  obtain ⟨t, r⟩ := text_wide hf hs hd (x := "  ((" ++ wd ++ ") ) ") (by rw [app_len, app_len, z6, z7]; omega) (by rw [app_cs, app_cs, hw, hx, List.append_assoc]; rfl)
  refine ⟨_, rfl, t, c.t, by rw [r]; simp, fun j e => (by rw [r] at e; cases e), fun g e H1 v1 k1 t1 hv1 => ?_⟩
  rw [r] at e
  cases e
  have c1 := c.kt k1 t1
  have hv' := c.fm k1 hv
  refine ⟨_, rfl, fm_same hv1 hv' hh ⟨_, rfl, iteF ?_⟩⟩
  have q1 := TK.replace_len x ": " ":"
  rw [z4] at q1
  refine ⟨_, rfl, x, rfl, by rw [z4]; omega, _, rfl, by rw [z5]; omega, ?_⟩
  have hn := replace_narrow x
  generalize Txt.replace (Txt.replace x ": " ":") " = " "=" = nr at hn ⊢
  have hnl : nr.length ≤ 6000 := by
    have h1 := Df.rep3_len (Df.rep2 (csx x))
    have h2 := Df.rep2_len (csx x)
    rw [csx_len, hn]
    rw [← csx_len x] at h2
    omega
  obtain ⟨t, r⟩ := text_narrow hf hs hd (x := nr) (by omega) (by rw [hn, hx])
  refine ⟨_, rfl, t, t1, by rw [r]; simp, fun j e => (by rw [r] at e; cases e), fun g e H2 v2 k2 t2 hv2 => ?_⟩
  rw [r] at e
  cases e
  have c2 := c1.kt k2 t2
  refine ⟨_, rfl, fm_same hv2 (c1.fm k2 hv') hh ⟨_, rfl, iteF ?_⟩⟩
  exact h7 D H2 a n zs ns tv x fm d _ _ _ _ _ _ _ _ _ c2 hk hf hs hd hx
end
end K1

namespace Df
open PySem
theorem free_row {fs : List Fm} {b : List Str} (h : ∀ f ∈ fs, ∀ b x, x ∈ freeL f b → isNameW x = true) : ∀ x ∈ freeLs fs b, isNameW x = true := by
  induction fs with
  | nil =>
    intro x hx
    simp [freeLs] at hx
  | cons f fs ih =>
    intro x hx
    simp only [freeLs] at hx
    rcases List.mem_append.mp hx with hx | hx
    · exact h f List.mem_cons_self b x hx
    · exact ih (fun g hg => h g (List.mem_cons_of_mem _ hg)) x hx
/-- the free names of a formula are names -/
theorem free_ok {ar : List Str} {f : Fm} (h : OkF ar f) : ∀ b x, x ∈ freeL f b → isNameW x = true := by
  induction h with
  | @cmp ar op l r ho hl hr =>
    intro b x hx
    simp only [freeL] at hx
    obtain ⟨hm, hf⟩ := List.mem_filter.mp hx
    have h0 : x ≠ "0" := by
      unfold frB at hf
      simp only [Bool.and_eq_true] at hf
      simpa using hf.1
    have hor : x = l.1 ∨ x = r.1 := by simpa using hm
    rcases hor with rfl | rfl
    · rcases hl.x with e | e
      · exact absurd e h0
      · exact e
    · rcases hr.x with e | e
      · exact absurd e h0
      · exact e
  | @no ar f _ ih =>
    intro b x hx
    simp only [freeL] at hx
    exact ih b x hx
  | @q ar k n f hk hn hf _ ih =>
    intro b x hx
    simp only [freeL] at hx
    exact ih _ x hx
  | @row ar k fs hk hl _ ih =>
    intro b x hx
    simp only [freeL] at hx
    exact free_row ih x hx
end Df
namespace K1
open PySem PySem.Spec PyProof.Rows L2 Ls
theorem cutL_upto (xs : List V) (n : Nat) : cutV xs none (some (n : Int)) = xs.take n := by
  unfold cutV
  rw [HT.sIx_nat, HT.sIx_none, List.drop_zero, Nat.sub_zero, ← List.take_eq_take_min]
section
variable {P : Program} {w : World} {K : PySem.W.Frag} {mg : Str → Option Value} {base : Heap} {f Pt CE CL : Addr} {fd : FuncData} {k : Nat}
theorem lawB3 (G : Facts mg) (C_u_law_draw : Cal P w K mg base 1 "_law_draw" (spDraw K) []) (C_u_law_known : Cal P w K mg base 1 "_law_known" spKnown []) (C_u_law_refused : Cal P w K mg base 131 "_law_refused" (spLRef Pt 30) []) (C_read_formula : CalX P w K mg base 130 "read_formula" (spRead CE Pt 30) [])
    (C_u_law_free : Cal P w K mg base 8 "_law_free" (spLFree 6) []) (C_free_names : Cal P w K mg base 9 "free_names" (spFN 6) [])
    {f : Addr} {cdv : Value} {A : Around} {outer : List Env} {s : Shared} {H0 : Hp} {E : XK} (hr : Room 131 (A.deeper (envOfC "law" (defScope s_law) s.heap.objs.size f cdv))) :
    ∃ t, PSsT (cxOf CX0 P w K mg base lawN "law" (defScope s_law) f cdv A outer s H0 E).nox (lawB.drop 3) t ∧
      ∀ (D : Ends) (H : Hp) (N : Addr → Prop) (a n : Addr) (zs : List Int) (ns : List Str) (tv : Int) (v : V) (x : Str) (fm : Df.Fm) (d : Nat) (y5 y6 y7 y8 y9 y10 y11 y12 : Option V), LC K Pt a n zs ns H → NxL K Pt a n zs ns tv D →
        Dt N H v (fmD fm) → Df.OkF [] fm → Df.Siz d fm → d ≤ 4 → csx x = Df.fmC false fm →
        t D [some (.ref a), some (.ref n), some (.int tv), some v, some (.str x), y5, y6, y7, y8, y9, y10, y11, y12] H := by
  have hu := hu_of hr
  obtain ⟨t5, p5, h5⟩ := lawB5 (outer := outer) (H0 := H0) (E := E) G C_u_law_draw C_u_law_known C_u_law_refused C_read_formula hr
  refine ⟨_, (psst_cons (PST.of (ps_set (i := 6) sc_law.nd rfl (.inr rfl) (pe_c C_u_law_free hr (by decide) (by rfl) (pa_cons (pv 3) (pa_cons (pe_lst pa_nil) pa_nil)))))
      (psst_cons (PST.of (ps_if (pt_cmpR (kNeD K hr.units) (pe_c C_free_names hr (by decide) (by rfl) (pa_cons (pv 3) pa_nil)) (pe_callTy kTuple (by rfl) G.tuple_ (by decide +kernel) (pa_cons (pe_lc (own := [("at", 7), ("name", 8)]) (g := gTup K 2 (gCons (gName 7) (gCons (gName 8) (gNil)))) rfl sc_law.nd  (kpi_enum K (by rfl) G.enumerate_ (pa_cons (pv 6) pa_nil)) (blkOk_by (by kernel_rfl)) (fun _ _ _ _ _ => (kpg_tup K rfl (pgs_cons (pg_name (i := 7) sc_law.nd rfl (by first | exact .inl rfl | exact .inr rfl)) (pgs_cons (pg_name (i := 8) sc_law.nd rfl (by first | exact .inl rfl | exact .inr rfl)) pgs_nil)))) (fun _ _ _ _ _ => (pts_one (pt_cmpR (kNotIn K) (pv 8) (pe_slice (kSlL K) (pv 6) po_none (po_some (pv 7))) (by rfl)))) (fun _ _ _ _ _ => (pv 8))) pa_nil)) (nomark _)) (pss_one (ps_ret pe_bl)) pss_nil))
      p5)), ?_⟩
  intro D H N a n zs ns tv v x fm d y5 y6 y7 y8 y9 y10 y11 y12 c hk hv hf hs hd hx
  have hh : Df.ht fm ≤ 4 := by have := hs.h; omega
  have := Df.sizes hd
  have hfl : (Df.freeL fm []).length ≤ 200 := by have := hs.r []; omega
  have hnm := Df.free_ok hf []
  refine ⟨_, rfl, by show 0 ≤ sizeLine; decide, fun l nl => ?_⟩
  have s1 := same_upd nl (o := .lst [])
  have hl1 : upd H l (.lst []) l = some (.lst []) := upd_same
  generalize upd H l (.lst []) = H1 at s1 hl1 ⊢
  refine ⟨N, _, fm, l, [], rfl, hv.mono s1, ⟨_, hf⟩, by omega, hl1, by simp only [List.length_nil]; omega, by omega, fun H2 p s2 hp => ?_⟩
  have sA := s1.trans s2
  generalize hL : Df.freeL fm [] = L at hfl hnm hp
  refine ⟨_, rfl, N, _, fm, rfl, hv.mono sA, ⟨_, hf⟩, by omega, by omega, by rw [hL]; omega, fun H3 p3 s3 hp3 => ?_⟩
  rw [hL] at hp3
  have hp' := s3 _ _ hp
  refine ⟨_, rfl, p, _, rfl, sq hp', fun D0 hD => ?_⟩
  refine lc_it (walk_enum (K := K) (a := p) (xs := L.map V.str)) (fun j H' => Same H3 H' ∧ H' D0 = some (.lst ((Df.addAll [] (L.take j)).map V.str))) ⟨same_upd hD, by rw [upd_same]; rfl⟩ (fun j H' _ ⟨s4, _⟩ => sq (s4 _ _ hp')) ?_ ?_
  · rintro j y H9 H' hj ⟨s4, hD4⟩ hY
    obtain ⟨T', x1, x2, rfl, nT, rfl, e1, e2⟩ := hY
    cases e1
    have hj : j < L.length := by simpa using hj
    have e2 : x2 = V.str L[j] := by
      have e2 : (L.map V.str)[j]? = some x2 := e2
      rw [List.getElem?_map, List.getElem?_eq_getElem hj] at e2
      exact (Option.some.inj e2).symm
    subst e2
    have sT := same_upd nT (o := .tup [V.int (j : Int), V.str L[j]])
    have hp4 := sT _ _ (s4 _ _ hp')
    have hD5 := sT _ _ hD4
    have s5 := s4.trans sT
    refine ⟨T', _, rfl, sqt upd_same, rfl, _, _, rfl, _, _, rfl, rfl, rfl, ?_⟩
    generalize upd H9 T' (.tup [V.int (j : Int), V.str L[j]]) = H5 at hp4 hD5 s5 ⊢
    refine ⟨_, rfl, _, rfl, _, rfl, _, rfl, p, _, rfl, sq hp4, fun l2 nl2 => ?_⟩
    rw [cutL_upto, ← List.map_take]
    have s6 := same_upd nl2 (o := .lst ((L.take j).map V.str))
    have hl2 : upd H5 l2 (.lst ((L.take j).map V.str)) l2 = some (.lst ((L.take j).map V.str)) := upd_same
    have hD6 := s6 _ _ hD5
    have s7 := s5.trans s6
    generalize upd H5 l2 (.lst ((L.take j).map V.str)) = H6 at hl2 hD6 s7 ⊢
    refine ⟨l2, _, rfl, .inl (sq hl2), rfl, flat_strs _, _, rfl, ?_⟩
    rw [inV_strs]
    have hln := Df.addAll_len (L.take j) []
    rw [List.length_take, List.length_nil] at hln
    by_cases hm : L[j] ∈ L.take j
    · rw [show (L.take j).contains L[j] = true by simpa using hm]
      refine iteF ⟨s7, ?_⟩
      rw [Df.addAll_take L hj, Df.addD_in ((Df.addAll_mem _ _ _).mpr (.inr hm))]
      exact hD6
    · rw [show (L.take j).contains L[j] = false by simpa using hm]
      refine iteT ⟨_, rfl, _, hD6, szlt (by rw [List.length_map]; omega), same_mut s7 hD, ?_⟩
      rw [upd_same, Df.addAll_take L hj, Df.addD_out (fun z => hm (by rcases (Df.addAll_mem _ _ _).mp z with q | q; cases q; exact q)), List.map_append]
      rfl
  · rintro H4 ⟨s4, hD4⟩
    rw [List.length_map, List.take_length] at hD4
    refine ⟨D0, _, rfl, .inl hD4, fun H7 p7 s7 _ hp7 => ?_⟩
    have s37 := s4.trans s7
    have hall : ∀ y ∈ Df.addAll [] L, Df.isNameW y = true := fun y hy => by
      rcases (Df.addAll_mem _ _ _).mp hy with q | q
      · cases q
      · exact hnm y q
    have hsh := shaped_strsT hall
    have hlay : PyData.canLay0 (.tuple ((Df.addAll [] L).map PyData.str)) = true := by
      simp only [PyData.canLay0]
      exact canLay_strs _ hall
    refine ⟨_, _, .tup (sqt (s37 _ _ hp3)) (dpStrs K _ _), .tup (sqt hp7) (dpStrs K _ _), hsh, hsh, _, rfl, ?_⟩
    rw [PySem.SeqAt.eqv_refl _ hlay]
    have sZ := sA.trans (s3.trans s37)
    exact iteF (h5 D H7 N a n zs ns tv v x fm d _ _ _ _ _ _ _ _ (c.mono sZ) hk (hv.mono sZ) hf hs hd hx)
end
end K1

namespace K1
open PySem PySem.Spec PyProof.Rows L2 Ls
section
variable {P : Program} {w : World} {K : PySem.W.Frag} {mg : Str → Option Value} {base : Heap} {f Pt CE CL : Addr} {fd : FuncData} {k : Nat}
theorem lawB0 (G : Facts mg) (C_u_law_draw : Cal P w K mg base 1 "_law_draw" (spDraw K) []) (C_u_law_known : Cal P w K mg base 1 "_law_known" spKnown []) (C_u_law_refused : Cal P w K mg base 131 "_law_refused" (spLRef Pt 30) []) (C_read_formula : CalX P w K mg base 130 "read_formula" (spRead CE Pt 30) [])
    (C_u_law_free : Cal P w K mg base 8 "_law_free" (spLFree 6) []) (C_free_names : Cal P w K mg base 9 "free_names" (spFN 6) []) (C_u_law_tree : Cal P w K mg base 8 "_law_tree" (spTree K 5) []) (C_write_formula : Cal P w K mg base 7 "write_formula" (spWrite 5) [.bl false]) (C_u_law_text : Cal P w K mg base 7 "_law_text" (spLText 5) [])
    {f : Addr} {cdv : Value} {A : Around} {outer : List Env} {s : Shared} {H0 : Hp} {E : XK} (hr : Room 131 (A.deeper (envOfC "law" (defScope s_law) s.heap.objs.size f cdv))) :
    ∃ t, PSs (cxOf CX0 P w K mg base lawN "law" (defScope s_law) f cdv A outer s H0 E).nox lawB t ∧
      ∀ (D : Ends) (H : Hp) (a n : Addr) (zs : List Int) (ns : List Str) (tv : Int) (y3 y4 y5 y6 y7 y8 y9 y10 y11 y12 : Option V), LC K Pt a n zs ns H → ns.length = 2 → NxL K Pt a n zs ns tv D →
        t D [some (.ref a), some (.ref n), some (.int tv), y3, y4, y5, y6, y7, y8, y9, y10, y11, y12] H := by
  have hu := hu_of hr
  obtain ⟨t3, p3, h3⟩ := lawB3 (outer := outer) (H0 := H0) (E := E) G C_u_law_draw C_u_law_known C_u_law_refused C_read_formula C_u_law_free C_free_names hr
  refine ⟨_, pss_setB (i := 3) sc_law.nd rfl (.inl rfl) (peb_c C_u_law_tree hr (by decide) (by rfl) (pab_more (pv 0) (pab_one (peb_op op_add peb_int (pe_op op_mul pe_int (pv 2))) (pa_cons (pv 1) (pa_cons (pe_tup (pa_cons pe_str (pa_cons pe_str (pa_cons pe_str pa_nil)))) (pa_cons (pe_op op_add pe_int (pe_c C_u_law_draw hr (by decide) (by rfl) (pa_cons (pv 0) (pa_cons (pe_op op_add pe_int (pv 2)) (pa_cons pe_int pa_nil))))) pa_nil))))))
    (psst_cons (PST.of (ps_par (i := 4) (j := 5) (by rfl) sc_law.nd rfl rfl (by decide) rfl rfl (pa_cons (pe_c C_write_formula hr (by decide) (by rfl) (pa_cons (pv 3) pa_nil)) (pa_cons (pe_c C_u_law_text hr (by decide) (by rfl) (pa_cons (pv 3) (pa_cons pe_bl pa_nil))) pa_nil)) (by rfl)))
      (psst_cons (PST.of (ps_if (PW.pt (pw_or (pt_cmpR op_ne (pv 4) (pv 5) (nomark _)) (pw_or1 (pt_cmpR (kNeD K hr.units) (pe_cx C_read_formula takes0 (fun _ _ _ _ h => h) hr (by decide) (by rfl) (pa_cons (pv 4) pa_nil)) (pv 3) (nomark _))))) (pss_one (ps_ret pe_bl)) pss_nil))
      p3)), ?_⟩
  intro D H a n zs ns tv y3 y4 y5 y6 y7 y8 y9 y10 y11 y12 c hns hk
  refine ⟨_, rfl, _, rfl, _, _, rfl, rfl, .inl ⟨by decide, by decide⟩, _, _, rfl, rfl, _, rfl, by show 3 ≤ sizeLine; decide, fun q nq => ?_⟩
  have s1 := same_upd nq (o := .tup [V.str "k", V.str "u", V.str "w"])
  have hq : upd H q (.tup [V.str "k", V.str "u", V.str "w"]) q = some (.tup ((["k", "u", "w"] : List Str).map V.str)) := upd_same
  generalize upd H q (.tup [V.str "k", V.str "u", V.str "w"]) = H1 at s1 hq ⊢
  have c1 := c.mono s1
  refine ⟨_, rfl, _, rfl, _, _, rfl, rfl, a, zs, _, 4, rfl, c1.s, by decide, fun H2 j s2 j0 j1 => ?_⟩
  have c2 := c1.mono s2
  obtain ⟨j, rfl⟩ := Int.eq_ofNat_of_zero_le j0
  have hq2 : NmT H2 q ["k", "u", "w"] := ⟨s2 _ _ hq, by decide, by decide +kernel⟩
  refine ⟨_, _, rfl, rfl, a, n, q, zs, ns, ["k", "u", "w"], [], _, 1 + j, rfl, c2.s, c2.n, hq2, by rw [hns]; decide, by decide +kernel, fun _ _ z => (by cases z), by omega, fun H3 v fm s3 hv hf hs => ?_⟩
  have c3 := c2.mono s3
  have hd : 1 + j ≤ 4 := by omega
  have hh : Df.ht fm ≤ 4 := by have := hs.h; omega
  have hsz := Df.sizes hd
  have hcl : (Df.fmC true fm).length ≤ 100000 := by have := hs.c; omega
  refine ⟨_, rfl, AllN, _, fm, false, rfl, hv, ⟨_, hf⟩, by omega, hcl, fun H4 x s4 hx => ?_⟩
  refine ⟨_, rfl, AllN, _, fm, false, rfl, hv.mono s4, ⟨_, hf⟩, by omega, by omega, hcl, fun H5 y s5 hy => ?_⟩
  have c5 := (c3.mono s4).mono s5
  have hv5 := (hv.mono s4).mono s5
  obtain rfl : x = y := Df.csS_inj (hx.trans hy.symm)
  refine ⟨_, _, rfl, ?_⟩
  refine ⟨_, rfl, _, rfl, rfl, _, rfl, ?_⟩
  rw [show (!decide (V.str x = V.str x)) = false by simp]
  obtain ⟨t, r⟩ := text_read hf hs hd hx
  refine iteF ⟨_, rfl, _, rfl, t, c5.t, by rw [r]; simp, fun j e => (by rw [r] at e; cases e), fun g e H6 v2 k2 t2 hv2 => ?_⟩
  rw [r] at e
  cases e
  have c6 := c5.kt k2 t2
  have hv6 := c5.fm k2 hv5
  refine ⟨_, rfl, fm_same hv2 hv6 (by omega) ⟨_, rfl, iteF ?_⟩⟩
  exact h3 D H6 AllN a n zs ns tv v x fm (1 + j) _ _ _ _ _ _ _ _ c6 hk hv6 hf hs hd hx
def spLaw (K : PySem.W.Frag) (Pt : Addr) : Sp := fun vs H Q _ => ∃ (a : Addr) (zs : List Int), vs = [.ref a] ∧ Scr K H a zs ∧ GxR.TabG H Pt ∧ ∀ H', Q (.bl true) H'
def namesL : List (List Str) := [["i", "j"], ["n", "abcdefgh"], ["x", "alls"]]
theorem names_ok : ∀ ns ∈ namesL, ns.length = 2 ∧ ∀ x ∈ ns, Df.isNameW x = true := by decide +kernel
theorem ok_law (F : FnP K "law" s_law [] f fd) (G : Facts mg) (C_u_law_draw : Cal P w K mg base 1 "_law_draw" (spDraw K) []) (C_u_law_known : Cal P w K mg base 1 "_law_known" spKnown []) (C_u_law_refused : Cal P w K mg base 131 "_law_refused" (spLRef Pt 30) []) (C_read_formula : CalX P w K mg base 130 "read_formula" (spRead CE Pt 30) [])
    (C_u_law_free : Cal P w K mg base 8 "_law_free" (spLFree 6) []) (C_free_names : Cal P w K mg base 9 "free_names" (spFN 6) []) (C_u_law_tree : Cal P w K mg base 8 "_law_tree" (spTree K 5) []) (C_write_formula : Cal P w K mg base 7 "write_formula" (spWrite 5) [.bl false]) (C_u_law_text : Cal P w K mg base 7 "_law_text" (spLText 5) []) :
    FnOk P w K mg base CX0 132 f fd ["script"] (spLaw K Pt) := by
  refine F.ok sc_law (fun vs H Q E h => ?_) (fun cdv A outer s H vs Q E hr h => ?_)
  · obtain ⟨a, zs, rfl, _⟩ := h
    rfl
  · obtain ⟨a, zs, rfl, hS, hT, hk⟩ := h
    have hu := hu_of hr
    obtain ⟨t0, p0, h0⟩ := lawB0 (outer := outer) (H0 := H) (E := E) G C_u_law_draw C_u_law_known C_u_law_refused C_read_formula C_u_law_free C_free_names C_u_law_tree C_write_formula C_u_law_text hr
    refine ⟨_, PSs.nox (pss_cons (ps_set (i := 1) sc_law.nd rfl (.inl rfl) (pe_ix (kIxT K) (pe_tup (pa_cons (pe_tup (pa_cons pe_str (pa_cons pe_str pa_nil))) (pa_cons (pe_tup (pa_cons pe_str (pa_cons pe_str pa_nil))) (pa_cons (pe_tup (pa_cons pe_str (pa_cons pe_str pa_nil))) pa_nil)))) (pe_c C_u_law_draw hr (by decide) (by rfl) (pa_cons (pv 0) (pa_cons pe_int (pa_cons pe_int pa_nil)))) (fun _ _ => rfl)))
      (pss_cons (ps_for PassesOwn.never rfl (pi_range1 (by rfl) G.range_ (pa_cons pe_int pa_nil)) (pg_name (i := 2) sc_law.nd rfl (by first | exact .inl rfl | exact .inr rfl)) p0)
      (pss_one (ps_ret pe_bl)))), ?_⟩
    refine ⟨by show 2 ≤ sizeLine; decide, fun t1 n1 => ⟨by show 2 ≤ sizeLine; decide, fun t2 n2 => ⟨by show 2 ≤ sizeLine; decide, fun t3 n3 => ⟨by show 3 ≤ sizeLine; decide, fun t nt => ?_⟩⟩⟩⟩
    have h1 : upd H t1 (.tup [V.str "i", V.str "j"]) t1 = some (.tup ((["i", "j"] : List Str).map V.str)) := upd_same
    have s1 := same_upd n1 (o := .tup [V.str "i", V.str "j"])
    generalize upd H t1 (.tup [V.str "i", V.str "j"]) = H1 at n2 h1 s1 n3 nt ⊢
    have h2 : upd H1 t2 (.tup [V.str "n", V.str "abcdefgh"]) t2 = some (.tup ((["n", "abcdefgh"] : List Str).map V.str)) := upd_same
    have s2 := same_upd n2 (o := .tup [V.str "n", V.str "abcdefgh"])
    generalize upd H1 t2 (.tup [V.str "n", V.str "abcdefgh"]) = H2 at h2 s2 n3 nt ⊢
    have h3 : upd H2 t3 (.tup [V.str "x", V.str "alls"]) t3 = some (.tup ((["x", "alls"] : List Str).map V.str)) := upd_same
    have s3 := same_upd n3 (o := .tup [V.str "x", V.str "alls"])
    generalize upd H2 t3 (.tup [V.str "x", V.str "alls"]) = H3 at h3 s3 nt ⊢
    have h4 : upd H3 t (.tup [.ref t1, .ref t2, .ref t3]) t = some (.tup [.ref t1, .ref t2, .ref t3]) := upd_same
    have s4 := same_upd nt (o := .tup [.ref t1, .ref t2, .ref t3])
    generalize upd H3 t (.tup [.ref t1, .ref t2, .ref t3]) = H4 at h4 s4 ⊢
    have sA := s1.trans (s2.trans (s3.trans s4))
    refine ⟨_, rfl, a, zs, _, 3, rfl, hS.mono sA, by decide, fun H5 d s5 d0 d1 => ?_⟩
    obtain ⟨n, ns, hx, hn, hm⟩ : ∃ (n : Addr) (ns : List Str), atI [V.ref t1, .ref t2, .ref t3] d = some (.ref n) ∧ H5 n = some (.tup (ns.map V.str)) ∧ ns ∈ namesL := by
      have : d = 0 ∨ d = 1 ∨ d = 2 := by omega
      rcases this with rfl | rfl | rfl
      · exact ⟨t1, _, rfl, s5 _ _ (s4 _ _ (s3 _ _ (s2 _ _ h1))), .head _⟩
      · exact ⟨t2, _, rfl, s5 _ _ (s4 _ _ (s3 _ _ h2)), .tail _ (.head _)⟩
      · exact ⟨t3, _, rfl, s5 _ _ (s4 _ _ h3), .tail _ (.tail _ (.head _))⟩
    obtain ⟨hl, hok⟩ := names_ok ns hm
    have c : LC K Pt a n zs ns H5 := ⟨hS.mono (sA.trans s5), ⟨hn, by rw [hl]; decide, hok⟩, TabG.mono hT (sA.trans s5)⟩
    refine ⟨t, _, _, _, rfl, rfl, sqt (s5 _ _ h4), hx, ?_⟩
    refine ⟨3, rfl, by decide, by decide, ?_⟩
    refine for_it (walk_range (lo := 0) (n := (3 : Int).toNat)) (fun i σ H' => ∃ z2 z3 z4 z5 z6 z7 z8 z9 z10 z11 z12, σ = [some (.ref a), some (.ref n), z2, z3, z4, z5, z6, z7, z8, z9, z10, z11, z12] ∧ LC K Pt a n zs ns H') ⟨_, _, _, _, _, _, _, _, _, _, _, rfl, c⟩ (fun _ _ _ _ _ => True.intro) ?_ ?_
    · rintro i y σ H9 H6 hi ⟨z2, z3, z4, z5, z6, z7, z8, z9, z10, z11, z12, rfl, c⟩ ⟨rfl, rfl⟩
      exact h0 _ _ a n zs ns _ _ _ _ _ _ _ _ _ _ _ c hl fun H' z3 z4 z5 z6 z7 z8 z9 z10 z11 z12 c' => ⟨_, _, _, _, _, _, _, _, _, _, _, rfl, c'⟩
    · rintro σ H6 ⟨z2, z3, z4, z5, z6, z7, z8, z9, z10, z11, z12, rfl, c⟩
      exact hk H6
end
end K1

/-! ### the head's facts: defs at any address, own exceptions with an __init__, classmethods, empty tuples as defaults -/
namespace Ls
open PySem PySem.Spec PyProof.Rows L2 NdefX He ClX
structure CmD where
  cls : Str
  m : Str
def CmD.ok (K : PySem.W.Frag) (c : CmD) : Bool := He5.wrapB K (ga K c.cls) "classmethod" "classmethod.__get__" c.m && (PySem.W.fnIn K (He5.wf K (ga K c.cls) "classmethod" c.m) && (PySem.W.readsIn K (ga K c.cls) (.type "type") && eqO (PySem.W.specialIn K (.ref (ga K c.cls)) "__getattribute__") (some (some (.builtin "type.__getattribute__")))))
theorem CmD.read {K : PySem.W.Frag} {c : CmD} (h : c.ok K = true) : CRead K (ga K c.cls) (.type "type") := by
  obtain ⟨h1, h⟩ := ba h
  obtain ⟨h2, h⟩ := ba h
  obtain ⟨h3, h4⟩ := ba h
  exact ⟨h3, eqO_ok h4⟩
theorem CmD.met {K : PySem.W.Frag} {c : CmD} (h : c.ok K = true) : CMet K (ga K c.cls) (.type "type") c.m (ma K (ga K c.cls) c.m) (He5.wf K (ga K c.cls) "classmethod" c.m) := by
  obtain ⟨h1, h⟩ := ba h
  obtain ⟨h2, h⟩ := ba h
  exact He5.cmet_of h1 h2
/-- the keyword-only default x of the def at p, if it is an object -/
def kwdAt (p : PySem.W.Frag → Addr) (x : Str) (K : PySem.W.Frag) : Addr := match K.lookup (p K) with
  | some ⟨_, _, .func fd, _⟩ => (match fd.kwdefaults with
    | .ref D => (match PySem.W.nsIn K D x with
      | some (some (.ref a)) => a
      | _ => 0)
    | _ => 0)
  | _ => 0
def tup0B (K : PySem.W.Frag) (a : Addr) : Bool := match K.lookup a with
  | some ⟨.type c, _, .seq its _, _⟩ => (c == "tuple") && (its.size == 0)
  | _ => false
theorem tup0_ok {K : PySem.W.Frag} {a : Addr} (h : tup0B K a = true) (H : Hp) : SqT K H a [] := by
  unfold tup0B at h
  split at h
  · rename_i c od its n sl ho
    obtain ⟨h1, h2⟩ := ba h
    have e1 := eq_of_beq h1
    have e2 := eq_of_beq h2
    refine .inr ⟨_, its, n, ho, by rw [e1], rfl, by rw [e2]; exact Nat.zero_le _, ?_⟩
    obtain ⟨l⟩ := its
    have : l = [] := List.length_eq_zero_iff.mp e2
    subst this
    exact .nil
  · cases h
/-- m of the class c is a property -/
def prB (c m : Str) (K : PySem.W.Frag) : Bool := eqO (PySem.W.findIn K (.ref (ga K c)) m) (some (some (.ref (ma K (ga K c) m)))) && (eqO (PySem.W.specialIn K (.ref (ma K (ga K c) m)) "__get__") (some (some (.builtin "property.__get__"))) && (decide (PySem.W.takesIn K (.ref (ma K (ga K c) m)) = some true) && (match PySem.W.recIn K (ma K (ga K c) m) "property" with
    | some (.ref _ :: _) => true
    | _ => false)))
theorem prB_ok {K : PySem.W.Frag} {c m : Str} (h : prB c m K = true) : PropOf K (ga K c) m (ma K (ga K c) m) (He5.wf K (ga K c) "property" m) := by
  obtain ⟨h1, h⟩ := ba h
  obtain ⟨h2, h⟩ := ba h
  obtain ⟨h3, h4⟩ := ba h
  refine ⟨eqO_ok h1, eqO_ok h2, of_decide_eq_true h3, ?_⟩
  unfold He5.wf
  split at h4
  · rename_i f r e
    exact ⟨r, by rw [e]⟩
  · cases h4
structure Hd2 where
  fa : List Fa
  fn : List He5.DefA
  fx : List Fx
  su : List SupD
  cm : List CmD
  t0 : List (PySem.W.Frag → Addr)
  bs : List (PySem.W.Frag → Bool)
  file : Str
abbrev AlS2 : Type := AlD × Bool × List FnS
def obsS2 (d : Hd2) (K : PySem.W.Frag) : AlS2 := (He5.obsA d.fa d.fn K, (d.fx.all fun f => f.ok K) && ((d.su.all fun u => u.ok K d.file) && ((d.cm.all fun c => c.ok K) && ((d.t0.all fun t => tup0B K (t K)) && (d.bs.all fun b => b K)))), d.su.map fun u => fnS K u.cls)
def valS2 (d : Hd2) : AlS2 := (He5.valA d.fn, true, d.su.map SupD.val)
def obsSG2 (n : Nat) (d : Hd2) (g : Addr → Option Obj) : AlS2 := obsS2 d (frG g (asS g n))
def SaysS2 (d : Hd2) (K : PySem.W.Frag) : Prop := obsS2 d K = valS2 d
def hookS2 (n : Nat) (d : Hd2) : PySem.W.Hook where
  α := AlS2
  obs := fun s => obsSG2 n d s.heap.get?
  val := fun _ => valS2 d
  says := fun _ h => ∃ K : PySem.W.Frag, K.In h ∧ SaysS2 d K
  of := fun _ _ e => ⟨_, frG_in, e⟩
  keeps := fun _ _ _ ⟨K, hK, c⟩ k => ⟨K, hK.keeps k, c⟩
theorem obsSG2_eq {n : Nat} {d : Hd2} {g : Addr → Option Obj} {s : Shared} (h : ∀ a, g a = s.heap.get? a) : obsSG2 n d g = (hookS2 n d).obs s := by
  rw [show g = s.heap.get? from funext h]; rfl
section
variable {d : Hd2} {K : PySem.W.Frag}
theorem SaysS2.d_ (c : SaysS2 d K) : He5.SaysA d.fa d.fn K := congrArg (fun z : AlS2 => z.1) c
theorem SaysS2.b_ (c : SaysS2 d K) : ((d.fx.all fun f => f.ok K) && ((d.su.all fun u => u.ok K d.file) && ((d.cm.all fun c => c.ok K) && ((d.t0.all fun t => tup0B K (t K)) && (d.bs.all fun b => b K))))) = true := congrArg (fun z : AlS2 => z.2.1) c
theorem SaysS2.x (c : SaysS2 d K) (i : Nat) {f : Fx} (h : d.fx[i]? = some f := by rfl) : f.ok K = true := List.all_eq_true.mp (ba c.b_).1 f (List.mem_of_getElem? h)
theorem SaysS2.c_ (c : SaysS2 d K) (i : Nat) {f : CmD} (h : d.cm[i]? = some f := by rfl) : f.ok K = true := List.all_eq_true.mp (ba (ba (ba c.b_).2).2).1 f (List.mem_of_getElem? h)
theorem SaysS2.t_ (c : SaysS2 d K) (i : Nat) {t : PySem.W.Frag → Addr} (h : d.t0[i]? = some t := by rfl) (H : Hp) : SqT K H (t K) [] := tup0_ok (List.all_eq_true.mp (ba (ba (ba (ba c.b_).2).2).2).1 t (List.mem_of_getElem? h)) H
theorem SaysS2.bs_ (c : SaysS2 d K) (i : Nat) {b : PySem.W.Frag → Bool} (h : d.bs[i]? = some b := by rfl) : b K = true := List.all_eq_true.mp (ba (ba (ba (ba c.b_).2).2).2).2 b (List.mem_of_getElem? h)
theorem SaysS2.u (c : SaysS2 d K) (i : Nat) {u : SupD} {P : Program} (hf : ((P.main.file : Str) == d.file) = true) (ht : (P.main.scope.names.lookup ("super" : Str)).isSome = false) (h : d.su[i]? = some u := by rfl) :
    ∃ (fd : FuncData) (cc cf : Addr), SupC P K (ga K u.cls) (fIn K u.cls) cc ⟨"__init__", u.qual, u.params, u.body, u.scope, [(("__class__" : Str), cc)], cf⟩ fd := by
  have c2 := List.all_eq_true.mp (ba (ba c.b_).2).1 u (List.mem_of_getElem? h)
  have e : d.su.map (fun u => fnS K u.cls) = d.su.map SupD.val := congrArg (fun z : AlS2 => z.2.2) c
  have e2 : (d.su.map fun u => fnS K u.cls)[i]? = (d.su.map SupD.val)[i]? := by rw [e]
  rw [List.getElem?_map, List.getElem?_map, h] at e2
  exact SupD.supC (Option.some.inj e2) c2 hf ht
end
end Ls

/-! ### the head's facts with defs whose codes' tables are known -/
namespace Ls
open PySem PySem.Spec PyProof.Rows L2 NdefX He ClX
structure SaysS3 (d : Hd2) (tf : List Defn) (h : Heap) (K : PySem.W.Frag) : Prop where
  s : SaysS2 d K
  hd : ∀ p ∈ tf, PySem.W.codeHdIn K (cT K p).1 (cT K p).2 = true
  out : ∀ p ∈ tf, K.lookup (cT K p).2 = none
  empty : ∀ p ∈ tf, h.get? (cT K p).2 = some { cls := .none, data := .fields #[] }
abbrev AlS3 : Type := AlS2 × Bool
def obsS3 (n : Nat) (d : Hd2) (tf : List Defn) (g : Addr → Option Obj) : AlS3 := (obsS2 d (frT g (asS g n)), tabsB g tf (frT g (asS g n)))
def valS3 (d : Hd2) : AlS3 := (valS2 d, true)
theorem tab_at {g : Addr → Option Obj} {as : List Addr} {tf : List Defn} (h : tabsB g tf (frT g as) = true) {p : Defn} (hp : p ∈ tf) :
    PySem.W.codeHdIn (frT g as) (cT (frT g as) p).1 (cT (frT g as) p).2 = true ∧ ∃ o, g (cT (frT g as) p).2 = some o ∧ emptyTab o = true := by
  obtain ⟨h1, h2⟩ := ba (List.all_eq_true.mp h p hp)
  refine ⟨h1, ?_⟩
  generalize g (cT (frT g as) p).2 = q at h2 ⊢
  cases q with
  | none => cases h2
  | some o => exact ⟨o, rfl, h2⟩
theorem saysS3_of {n : Nat} {d : Hd2} {tf : List Defn} {h : Heap} (e : obsS3 n d tf h.get? = valS3 d) : SaysS3 d tf h (frT h.get? (asS h.get? n)) := by
  have e2 : tabsB h.get? tf (frT h.get? (asS h.get? n)) = true := congrArg (fun z : AlS3 => z.2) e
  refine ⟨congrArg (fun z : AlS3 => z.1) e, fun p hp => (tab_at e2 hp).1, fun p hp => ?_, fun p hp => ?_⟩
  · obtain ⟨_, o, q, z⟩ := tab_at e2 hp
    exact frT_none q z
  · obtain ⟨_, o, q, z⟩ := tab_at e2 hp
    rw [q, emptyTab_eq z]
def hookS3 (n : Nat) (d : Hd2) (tf : List Defn) : PySem.W.Hook where
  α := AlS3
  obs := fun s => obsS3 n d tf s.heap.get?
  val := fun _ => valS3 d
  says := fun _ h => ∃ K : PySem.W.Frag, K.In h ∧ SaysS3 d tf h K
  of := fun _ _ e => ⟨_, frT_in, saysS3_of e⟩
  keeps := fun _ _ _ ⟨K, hK, c⟩ k => ⟨K, PySem.W.Frag.In.keeps hK k, ⟨c.s, c.hd, c.out, fun p hp => k _ _ (c.empty p hp)⟩⟩
theorem obsS3_eq {n : Nat} {d : Hd2} {tf : List Defn} {g : Addr → Option Obj} {s : Shared} (h : ∀ a, g a = s.heap.get? a) : obsS3 n d tf g = (hookS3 n d tf).obs s := by
  rw [show g = s.heap.get? from funext h]; rfl
/-- a def as the walks of tables want it -/
theorem fnT_of {K : PySem.W.Frag} {x : Str} {st : Stmt} {dvs : List V} {kws : List (Str × V)} {p : Defn} {fd : FuncData} (F : FunD K x x (defArgs st) (defBody st) (defScope st) dvs kws (fAd K p) fd) : FnT K x st (fAd K p) fd (cT K p).1 := by
  obtain ⟨oc, od, dV, kV, doc, pm, an, cdv, ct, osl, rfl, lk, hcd, _, _⟩ := F.ex
  obtain ⟨c, rfl⟩ := codeIn_ref hcd
  have e : (cT K p).1 = c := codeOf_eq lk rfl
  rw [e]
  exact ⟨⟨oc, od, dV, kV, doc, pm, an, ct, osl, rfl, lk, hcd⟩, F.kp⟩
end Ls

namespace K1
open PySem PySem.Spec PyProof.Rows L2 Ls NdefX He ClX
theorem ok_BadText {P : Program} {w : World} {K : PySem.W.Frag} {mg : Str → Option Value} {base : Heap} {C f cc cf : Addr} {fd : FuncData}
    (U : SupC P K C f cc ⟨"__init__", "BadText.__init__", defArgs s_BadText___init__, defBody s_BadText___init__, defScope s_BadText___init__, [(("__class__" : Str), cc)], cf⟩ fd) (no1 : PySem.W.findIn K (.ref C) "line" = some none) (no2 : PySem.W.findIn K (.ref C) "column" = some none) :
    FnOk P w K mg base CX0 1 f fd ["self", "line", "column"] (spExc2 C "line" "column") :=
  ok_exc2 U rfl (nscope_by (show nscB _ _ _ (defScope s_BadText___init__) = true by decide +kernel)) rfl rfl rfl (fun L => ⟨_, rfl⟩) (fun L => rfl) (fun L => rfl) (fun L => rfl) (fun L => rfl) (by decide) (by decide) (by decide) (by decide) no1 no2
def wordsV : List Dv := [.str "all", .str "some", .str "not", .str "and", .str "or"]
def opsV : List Dv := [.str "<=", .str ">=", .str "!=", .str "=", .str "<", .str ">"]
def wordsB (K : PySem.W.Frag) : Bool := tupB K "WORDS" wordsV
def opsB (K : PySem.W.Frag) : Bool := tupB K "OPERATORS" opsV
theorem words_ok {K : PySem.W.Frag} (h : wordsB K = true) (H : Hp) : SqT K H (ga K "WORDS") (Df.wordsF.map V.str) := tupB_ok h H
theorem ops_ok {K : PySem.W.Frag} (h : opsB K = true) (H : Hp) : SqT K H (ga K "OPERATORS") (Df.opsL.map V.str) := tupB_ok h H
end K1

namespace K1
open PySem PySem.Spec PyProof.Rows L2 Ls
def d_is_word : He5.DefA := ⟨fun K => He.fAd K ("is_word", none), "is_word", "is_word", defArgs s_is_word, defBody s_is_word, defScope s_is_word, [], []⟩
def d_u_length : He5.DefA := ⟨fun K => He.fAd K ("_length", none), "_length", "_length", defArgs s_u_length, defBody s_u_length, defScope s_u_length, [], []⟩
def d_words_of : He5.DefA := ⟨fun K => He.fAd K ("words_of", none), "words_of", "words_of", defArgs s_words_of, defBody s_words_of, defScope s_words_of, [], []⟩
def d_Reader___init__ : He5.DefA := ⟨fun K => He.fAd K ("Reader", some "__init__"), "__init__", "Reader.__init__", defArgs s_Reader___init__, defBody s_Reader___init__, defScope s_Reader___init__, [], []⟩
def d_Reader_word : He5.DefA := ⟨fun K => He.fAd K ("Reader", some "word"), "word", "Reader.word", defArgs s_Reader_word, defBody s_Reader_word, defScope s_Reader_word, [], []⟩
def d_Reader_refuse : He5.DefA := ⟨fun K => He.fAd K ("Reader", some "refuse"), "refuse", "Reader.refuse", defArgs s_Reader_refuse, defBody s_Reader_refuse, defScope s_Reader_refuse, [], []⟩
def d_Reader_take : He5.DefA := ⟨fun K => He.fAd K ("Reader", some "take"), "take", "Reader.take", defArgs s_Reader_take, defBody s_Reader_take, defScope s_Reader_take, [], []⟩
def d_Reader_take_name : He5.DefA := ⟨fun K => He.fAd K ("Reader", some "take_name"), "take_name", "Reader.take_name", defArgs s_Reader_take_name, defBody s_Reader_take_name, defScope s_Reader_take_name, [], []⟩
def d_Reader_take_number : He5.DefA := ⟨fun K => He.fAd K ("Reader", some "take_number"), "take_number", "Reader.take_number", defArgs s_Reader_take_number, defBody s_Reader_take_number, defScope s_Reader_take_number, [], []⟩
def d_Reader_term : He5.DefA := ⟨fun K => He.fAd K ("Reader", some "term"), "term", "Reader.term", defArgs s_Reader_term, defBody s_Reader_term, defScope s_Reader_term, [], []⟩
def d_Reader_comparison : He5.DefA := ⟨fun K => He.fAd K ("Reader", some "comparison"), "comparison", "Reader.comparison", defArgs s_Reader_comparison, defBody s_Reader_comparison, defScope s_Reader_comparison, [], []⟩
def d_Reader_quantified : He5.DefA := ⟨fun K => He.fAd K ("Reader", some "quantified"), "quantified", "Reader.quantified", defArgs s_Reader_quantified, defBody s_Reader_quantified, defScope s_Reader_quantified, [], []⟩
def d_Reader_denial : He5.DefA := ⟨fun K => He.fAd K ("Reader", some "denial"), "denial", "Reader.denial", defArgs s_Reader_denial, defBody s_Reader_denial, defScope s_Reader_denial, [], []⟩
def d_Reader_row : He5.DefA := ⟨fun K => He.fAd K ("Reader", some "row"), "row", "Reader.row", defArgs s_Reader_row, defBody s_Reader_row, defScope s_Reader_row, [], []⟩
def d_Reader_formula : He5.DefA := ⟨fun K => He.fAd K ("Reader", some "formula"), "formula", "Reader.formula", defArgs s_Reader_formula, defBody s_Reader_formula, defScope s_Reader_formula, [], []⟩
def d_read_formula : He5.DefA := ⟨fun K => He.fAd K ("read_formula", none), "read_formula", "read_formula", defArgs s_read_formula, defBody s_read_formula, defScope s_read_formula, [], []⟩
def d_write_atom : He5.DefA := ⟨fun K => He.fAd K ("write_atom", none), "write_atom", "write_atom", defArgs s_write_atom, defBody s_write_atom, defScope s_write_atom, [], []⟩
def d_write_formula : He5.DefA := ⟨fun K => He.fAd K ("write_formula", none), "write_formula", "write_formula", defArgs s_write_formula, defBody s_write_formula, defScope s_write_formula, [], [("inside", .bl false)]⟩
def d_free_names : He5.DefA := ⟨fun K => He.fAd K ("free_names", none), "free_names", "free_names", defArgs s_free_names, defBody s_free_names, defScope s_free_names, [], []⟩
def d_u_free : He5.DefA := ⟨fun K => He.fAd K ("_free", none), "_free", "_free", defArgs s_u_free, defBody s_u_free, defScope s_u_free, [], []⟩
def d_u_law_draw : He5.DefA := ⟨fun K => He.fAd K ("_law_draw", none), "_law_draw", "_law_draw", defArgs s_u_law_draw, defBody s_u_law_draw, defScope s_u_law_draw, [], []⟩
def d_u_law_atom : He5.DefA := ⟨fun K => He.fAd K ("_law_atom", none), "_law_atom", "_law_atom", defArgs s_u_law_atom, defBody s_u_law_atom, defScope s_u_law_atom, [], []⟩
def d_u_law_compare : He5.DefA := ⟨fun K => He.fAd K ("_law_compare", none), "_law_compare", "_law_compare", defArgs s_u_law_compare, defBody s_u_law_compare, defScope s_u_law_compare, [], []⟩
def d_u_law_tree : He5.DefA := ⟨fun K => He.fAd K ("_law_tree", none), "_law_tree", "_law_tree", defArgs s_u_law_tree, defBody s_u_law_tree, defScope s_u_law_tree, [], []⟩
def d_u_law_text_of : He5.DefA := ⟨fun K => He.fAd K ("_law_text_of", none), "_law_text_of", "_law_text_of", defArgs s_u_law_text_of, defBody s_u_law_text_of, defScope s_u_law_text_of, [], []⟩
def d_u_law_text : He5.DefA := ⟨fun K => He.fAd K ("_law_text", none), "_law_text", "_law_text", defArgs s_u_law_text, defBody s_u_law_text, defScope s_u_law_text, [], []⟩
def d_u_law_free : He5.DefA := ⟨fun K => He.fAd K ("_law_free", none), "_law_free", "_law_free", defArgs s_u_law_free, defBody s_u_law_free, defScope s_u_law_free, [], []⟩
def d_u_law_refused : He5.DefA := ⟨fun K => He.fAd K ("_law_refused", none), "_law_refused", "_law_refused", defArgs s_u_law_refused, defBody s_u_law_refused, defScope s_u_law_refused, [], []⟩
def d_u_law_known : He5.DefA := ⟨fun K => He.fAd K ("_law_known", none), "_law_known", "_law_known", defArgs s_u_law_known, defBody s_u_law_known, defScope s_u_law_known, [], []⟩
def d_law : He5.DefA := ⟨fun K => He.fAd K ("law", none), "law", "law", defArgs s_law, defBody s_law, defScope s_law, [], []⟩
def fn : List He5.DefA := [d_is_word, d_u_length, d_words_of, d_Reader___init__, d_Reader_word, d_Reader_refuse, d_Reader_take, d_Reader_take_name, d_Reader_take_number, d_Reader_term, d_Reader_comparison, d_Reader_quantified, d_Reader_denial, d_Reader_row, d_Reader_formula, d_read_formula, d_write_atom, d_write_formula, d_free_names, d_u_free, d_u_law_draw, d_u_law_atom, d_u_law_compare, d_u_law_tree, d_u_law_text_of, d_u_law_text, d_u_law_free, d_u_law_refused, d_u_law_known, d_law]
def fa : List He.Fa := [.glo "is_word", .glo "_length", .glo "words_of", .glo "read_formula", .glo "write_atom", .glo "write_formula", .glo "free_names", .glo "_free", .glo "_law_draw", .glo "_law_atom", .glo "_law_compare", .glo "_law_tree", .glo "_law_text_of", .glo "_law_text", .glo "_law_free", .glo "_law_refused", .glo "_law_known", .glo "law", .free "len", .free "range", .free "enumerate", .free "isinstance", .free "tuple", .free "list", .free "int", .free "str", .free "all", .free "abs", .free "ValueError", .free "reversed", .int "FIGURES" 4, .glo "Reader", .cls "Reader", .noat "Reader" "words", .noat "Reader" "here", .noat "Reader" "around", .mkr "Reader", .meth "Reader" "word", .meth "Reader" "refuse", .meth "Reader" "take", .meth "Reader" "take_name", .meth "Reader" "take_number", .meth "Reader" "term", .meth "Reader" "comparison", .meth "Reader" "quantified", .meth "Reader" "denial", .meth "Reader" "row", .meth "Reader" "formula", .glo "BadText", .noat "BadText" "line", .noat "BadText" "column", .exm "BadText" "BadText" true, .glo "LoopshedsError", .glo "WORDS", .glo "OPERATORS"]
abbrev R : PySem.W.OpenRow := PySem.W.OpenLaw.row PySem.Challenge.rw_loopsheds_k12_formula_texts
def names : List Str := (["LoopshedsError", "BadText", "WORDS", "OPERATORS", "FIGURES", "is_word", "_length", "words_of", "Reader", "read_formula", "write_atom", "write_formula", "free_names", "_free", "_law_draw", "_law_atom"] : List Str) ++ (["_law_compare", "_law_tree", "_law_text_of", "_law_text", "_law_free", "_law_refused", "_law_known"] : List Str)
def fx : List Fx := [.exc "BadText", .isi "BadText" "LoopshedsError" true]
def su : List SupD := [⟨"BadText", "BadText.__init__", defArgs s_BadText___init__, defBody s_BadText___init__, defScope s_BadText___init__⟩]
def cm : List CmD := []
def t0 : List (PySem.W.Frag → Addr) := []
def bs : List (PySem.W.Frag → Bool) := [wordsB, opsB]
def hd : Hd2 := ⟨fa, fn, fx, su, cm, t0, bs, "/claim/cut.py"⟩
def tf : List He.Defn := [("is_word", none)]
abbrev hk : PySem.W.Hook := hookS3 5 hd tf
def ob (s : PySem.W.SharedT) : AlS3 := obsS3 5 hd tf (HandSHeadRun.getT s)
theorem ob_eq (s : PySem.W.SharedT) : ob s = hk.obs s.abs := obsS3_eq (HandSHeadRun.getT_eq s)
theorem run (w : World) : HandSHeadRun.RunEq R (PySem.W.view R.prog [26]) hk ob 4000 names w := by
  intro os
  kernel_rfl
theorem facts {P : Program} {w : World} {K : PySem.W.Frag} {h : Heap} {mg : Str → Option Value} {f : Addr} (X : K.In h) (N : h.Ns mainGlobals mg) (hfa : mg ("law" : Str) = some (.ref f)) (cS : SaysS2 hd K) (hPf : ((P.main.file : Str) == hd.file) = true) (hPs : (P.main.scope.names.lookup ("super" : Str)).isSome = false) :
    ∃ fd : FuncData, (∀ (s : Shared) (v : Value), BindsTo s fd ⟨[v], []⟩ [("script", v)]) ∧ ∀ base : Heap, K.In base → base.Ns mainGlobals mg → GxR.TabB base mg (He.cT K ("is_word", none)).1 (He.cT K ("is_word", none)).2 → FnOk P w K mg base CX0 132 f fd ["script"] (spLaw K (He.cT K ("is_word", none)).2) := by
  have c : He5.SaysA fa fn K := cS.d_
  obtain ⟨fd_is_word, F_is_word⟩ := c.def_ 0 (d := d_is_word) rfl
  obtain ⟨fd_u_length, F_u_length⟩ := c.def_ 1 (d := d_u_length) rfl
  obtain ⟨fd_words_of, F_words_of⟩ := c.def_ 2 (d := d_words_of) rfl
  obtain ⟨fd_Reader___init__, F_Reader___init__⟩ := c.def_ 3 (d := d_Reader___init__) rfl
  obtain ⟨fd_Reader_word, F_Reader_word⟩ := c.def_ 4 (d := d_Reader_word) rfl
  obtain ⟨fd_Reader_refuse, F_Reader_refuse⟩ := c.def_ 5 (d := d_Reader_refuse) rfl
  obtain ⟨fd_Reader_take, F_Reader_take⟩ := c.def_ 6 (d := d_Reader_take) rfl
  obtain ⟨fd_Reader_take_name, F_Reader_take_name⟩ := c.def_ 7 (d := d_Reader_take_name) rfl
  obtain ⟨fd_Reader_take_number, F_Reader_take_number⟩ := c.def_ 8 (d := d_Reader_take_number) rfl
  obtain ⟨fd_Reader_term, F_Reader_term⟩ := c.def_ 9 (d := d_Reader_term) rfl
  obtain ⟨fd_Reader_comparison, F_Reader_comparison⟩ := c.def_ 10 (d := d_Reader_comparison) rfl
  obtain ⟨fd_Reader_quantified, F_Reader_quantified⟩ := c.def_ 11 (d := d_Reader_quantified) rfl
  obtain ⟨fd_Reader_denial, F_Reader_denial⟩ := c.def_ 12 (d := d_Reader_denial) rfl
  obtain ⟨fd_Reader_row, F_Reader_row⟩ := c.def_ 13 (d := d_Reader_row) rfl
  obtain ⟨fd_Reader_formula, F_Reader_formula⟩ := c.def_ 14 (d := d_Reader_formula) rfl
  obtain ⟨fd_read_formula, F_read_formula⟩ := c.def_ 15 (d := d_read_formula) rfl
  obtain ⟨fd_write_atom, F_write_atom⟩ := c.def_ 16 (d := d_write_atom) rfl
  obtain ⟨fd_write_formula, F_write_formula⟩ := c.def_ 17 (d := d_write_formula) rfl
  obtain ⟨fd_free_names, F_free_names⟩ := c.def_ 18 (d := d_free_names) rfl
  obtain ⟨fd_u_free, F_u_free⟩ := c.def_ 19 (d := d_u_free) rfl
  obtain ⟨fd_u_law_draw, F_u_law_draw⟩ := c.def_ 20 (d := d_u_law_draw) rfl
  obtain ⟨fd_u_law_atom, F_u_law_atom⟩ := c.def_ 21 (d := d_u_law_atom) rfl
  obtain ⟨fd_u_law_compare, F_u_law_compare⟩ := c.def_ 22 (d := d_u_law_compare) rfl
  obtain ⟨fd_u_law_tree, F_u_law_tree⟩ := c.def_ 23 (d := d_u_law_tree) rfl
  obtain ⟨fd_u_law_text_of, F_u_law_text_of⟩ := c.def_ 24 (d := d_u_law_text_of) rfl
  obtain ⟨fd_u_law_text, F_u_law_text⟩ := c.def_ 25 (d := d_u_law_text) rfl
  obtain ⟨fd_u_law_free, F_u_law_free⟩ := c.def_ 26 (d := d_u_law_free) rfl
  obtain ⟨fd_u_law_refused, F_u_law_refused⟩ := c.def_ 27 (d := d_u_law_refused) rfl
  obtain ⟨fd_u_law_known, F_u_law_known⟩ := c.def_ 28 (d := d_u_law_known) rfl
  obtain ⟨fd_law, F_law⟩ := c.def_ 29 (d := d_law) rfl
  have G : Facts mg := ⟨He.free_ok X N (c.fact 18 (f := .free "len") rfl), He.free_ok X N (c.fact 19 (f := .free "range") rfl), He.free_ok X N (c.fact 20 (f := .free "enumerate") rfl), He.free_ok X N (c.fact 21 (f := .free "isinstance") rfl), He.free_ok X N (c.fact 22 (f := .free "tuple") rfl), He.free_ok X N (c.fact 23 (f := .free "list") rfl), He.free_ok X N (c.fact 24 (f := .free "int") rfl), He.free_ok X N (c.fact 25 (f := .free "str") rfl), He.free_ok X N (c.fact 26 (f := .free "all") rfl), He.free_ok X N (c.fact 27 (f := .free "abs") rfl), He.free_ok X N (c.fact 28 (f := .free "ValueError") rfl), He.free_ok X N (c.fact 29 (f := .free "reversed") rfl), He.int_ok X N (c.fact 30 (f := .int "FIGURES" 4) rfl)⟩
  have RC : RCls K (He.ga K "Reader") := ⟨He.cls_ok (c.fact 32 (f := .cls "Reader") rfl), (He.noat_ok (c.fact 33 (f := .noat "Reader" "words") rfl)), (He.noat_ok (c.fact 34 (f := .noat "Reader" "here") rfl)), (He.noat_ok (c.fact 35 (f := .noat "Reader" "around") rfl))⟩
  obtain ⟨fdE, ccE, cfE, UE⟩ := cS.u 0 (P := P) hPf hPs rfl
  obtain ⟨_, _, docE, pmE, ctvE, _, eE, _⟩ := UE.fn
  have bE : Binds K fdE ["self", "line", "column"] [] := by rw [eE]; exact Binds.all fun us hl => match us, hl with | [_, _, _], _ => rfl
  have no1 : PySem.W.findIn K (.ref (He.ga K "BadText")) "line" = some none := (He.noat_ok (c.fact 49 (f := .noat "BadText" "line") rfl))
  have no2 : PySem.W.findIn K (.ref (He.ga K "BadText")) "column" = some none := (He.noat_ok (c.fact 50 (f := .noat "BadText" "column") rfl))
  have ecE : ExcC K (He.ga K "BadText") := excB_ok (cS.x 0 (f := .exc "BadText") rfl)
  have XE : ∀ base : Heap, ExcS2 P w K mg base "BadText" (He.ga K "BadText") "line" "column" := fun base => ⟨UE.oex, no1, no2, (Ls.ExcC.xf ecE), (He.glo_ok X N (c.fact 48 (f := .glo "BadText") rfl)), _, fdE, ["self", "line", "column"], UE.ini, UE.typ, ok_BadText UE no1 no2, bE⟩
  have ET : ErrT K (He.ga K "BadText") (He.ga K "LoopshedsError") := ⟨ecE, (He.exm_ok (c.fact 51 (f := .exm "BadText" "BadText" true) rfl)), (of_decide_eq_true (cS.x 1 (f := .isi "BadText" "LoopshedsError" true) rfl))⟩
  have hCL : mg "LoopshedsError" = some (.ref (He.ga K "LoopshedsError")) := (He.glo_ok X N (c.fact 52 (f := .glo "LoopshedsError") rfl))
  have hW : mg "WORDS" = some (.ref (He.ga K "WORDS")) := (He.glo_ok X N (c.fact 53 (f := .glo "WORDS") rfl))
  have hO : mg "OPERATORS" = some (.ref (He.ga K "OPERATORS")) := (He.glo_ok X N (c.fact 54 (f := .glo "OPERATORS") rfl))
  have tW : ∀ H, SqT K H (He.ga K "WORDS") (Df.wordsF.map V.str) := words_ok (cS.bs_ 0 (b := wordsB) rfl)
  have tO : ∀ H, SqT K H (He.ga K "OPERATORS") (Df.opsL.map V.str) := ops_ok (cS.bs_ 1 (b := opsB) rfl)
  have e := hfa.symm.trans (He.glo_ok X N (c.fact 17 (f := .glo "law") rfl))
  cases e
  have b := FunD.bindsA (ps := ["script"]) F_law fun _ _ _ _ _ _ us hl => match us, hl with | [_], _ => rfl
  refine ⟨fd_law, fun s v => b s [v] rfl, fun base _ _ TB => ?_⟩
  have b_is_word : Binds K fd_is_word ["text"] [] := FunD.bindsN F_is_word fun _ _ _ _ _ _ us hl => match us, hl with | [_], _ => rfl
  have b_u_length : Binds K fd_u_length ["text", "at"] [] := FunD.bindsN F_u_length fun _ _ _ _ _ _ us hl => match us, hl with | [_, _], _ => rfl
  have b_words_of : Binds K fd_words_of ["text"] [] := FunD.bindsN F_words_of fun _ _ _ _ _ _ us hl => match us, hl with | [_], _ => rfl
  have b_Reader___init__ : Binds K fd_Reader___init__ ["self", "text"] [] := FunD.bindsN F_Reader___init__ fun _ _ _ _ _ _ us hl => match us, hl with | [_, _], _ => rfl
  have b_Reader_word : Binds K fd_Reader_word ["self"] [] := FunD.bindsN F_Reader_word fun _ _ _ _ _ _ us hl => match us, hl with | [_], _ => rfl
  have b_Reader_refuse : Binds K fd_Reader_refuse ["self"] [] := FunD.bindsN F_Reader_refuse fun _ _ _ _ _ _ us hl => match us, hl with | [_], _ => rfl
  have b_Reader_take : Binds K fd_Reader_take ["self", "word"] [] := FunD.bindsN F_Reader_take fun _ _ _ _ _ _ us hl => match us, hl with | [_, _], _ => rfl
  have b_Reader_take_name : Binds K fd_Reader_take_name ["self"] [] := FunD.bindsN F_Reader_take_name fun _ _ _ _ _ _ us hl => match us, hl with | [_], _ => rfl
  have b_Reader_take_number : Binds K fd_Reader_take_number ["self"] [] := FunD.bindsN F_Reader_take_number fun _ _ _ _ _ _ us hl => match us, hl with | [_], _ => rfl
  have b_Reader_term : Binds K fd_Reader_term ["self"] [] := FunD.bindsN F_Reader_term fun _ _ _ _ _ _ us hl => match us, hl with | [_], _ => rfl
  have b_Reader_comparison : Binds K fd_Reader_comparison ["self"] [] := FunD.bindsN F_Reader_comparison fun _ _ _ _ _ _ us hl => match us, hl with | [_], _ => rfl
  have b_Reader_quantified : Binds K fd_Reader_quantified ["self"] [] := FunD.bindsN F_Reader_quantified fun _ _ _ _ _ _ us hl => match us, hl with | [_], _ => rfl
  have b_Reader_denial : Binds K fd_Reader_denial ["self"] [] := FunD.bindsN F_Reader_denial fun _ _ _ _ _ _ us hl => match us, hl with | [_], _ => rfl
  have b_Reader_row : Binds K fd_Reader_row ["self", "word"] [] := FunD.bindsN F_Reader_row fun _ _ _ _ _ _ us hl => match us, hl with | [_, _], _ => rfl
  have b_Reader_formula : Binds K fd_Reader_formula ["self"] [] := FunD.bindsN F_Reader_formula fun _ _ _ _ _ _ us hl => match us, hl with | [_], _ => rfl
  have b_read_formula : Binds K fd_read_formula ["text"] [] := FunD.bindsN F_read_formula fun _ _ _ _ _ _ us hl => match us, hl with | [_], _ => rfl
  have b_write_atom : Binds K fd_write_atom ["atom"] [] := FunD.bindsN F_write_atom fun _ _ _ _ _ _ us hl => match us, hl with | [_], _ => rfl
  have b_free_names : Binds K fd_free_names ["formula"] [] := FunD.bindsN F_free_names fun _ _ _ _ _ _ us hl => match us, hl with | [_], _ => rfl
  have b_u_free : Binds K fd_u_free ["formula", "bound", "found"] [] := FunD.bindsN F_u_free fun _ _ _ _ _ _ us hl => match us, hl with | [_, _, _], _ => rfl
  have b_u_law_draw : Binds K fd_u_law_draw ["script", "at", "many"] [] := FunD.bindsN F_u_law_draw fun _ _ _ _ _ _ us hl => match us, hl with | [_, _, _], _ => rfl
  have b_u_law_atom : Binds K fd_u_law_atom ["script", "at", "names"] [] := FunD.bindsN F_u_law_atom fun _ _ _ _ _ _ us hl => match us, hl with | [_, _, _], _ => rfl
  have b_u_law_compare : Binds K fd_u_law_compare ["script", "at", "names"] [] := FunD.bindsN F_u_law_compare fun _ _ _ _ _ _ us hl => match us, hl with | [_, _, _], _ => rfl
  have b_u_law_tree : Binds K fd_u_law_tree ["script", "at", "names", "fresh", "depth"] [] := FunD.bindsN F_u_law_tree fun _ _ _ _ _ _ us hl => match us, hl with | [_, _, _, _, _], _ => rfl
  have b_u_law_text_of : Binds K fd_u_law_text_of ["atom"] [] := FunD.bindsN F_u_law_text_of fun _ _ _ _ _ _ us hl => match us, hl with | [_], _ => rfl
  have b_u_law_text : Binds K fd_u_law_text ["tree", "inside"] [] := FunD.bindsN F_u_law_text fun _ _ _ _ _ _ us hl => match us, hl with | [_, _], _ => rfl
  have b_u_law_free : Binds K fd_u_law_free ["tree", "bound"] [] := FunD.bindsN F_u_law_free fun _ _ _ _ _ _ us hl => match us, hl with | [_, _], _ => rfl
  have b_u_law_refused : Binds K fd_u_law_refused ["text", "column"] [] := FunD.bindsN F_u_law_refused fun _ _ _ _ _ _ us hl => match us, hl with | [_, _], _ => rfl
  have b_u_law_known : Binds K fd_u_law_known ["turn"] [] := FunD.bindsN F_u_law_known fun _ _ _ _ _ _ us hl => match us, hl with | [_], _ => rfl
  have b_law : Binds K fd_law ["script"] [] := FunD.bindsN F_law fun _ _ _ _ _ _ us hl => match us, hl with | [_], _ => rfl
  obtain ⟨ds_wf, v_wf, b_wf⟩ := FunD.binds0 (ps := ["formula", "inside"]) F_write_formula 1 (List.cons_ne_nil _ _) rfl fun _ _ _ _ _ _ us ks h1 h2 => match us, h1, ks, h2 with | [_], _, [_], _ => ⟨_, _, _, _, _, _, rfl, rfl, rfl⟩
  obtain ⟨_, k_wf⟩ := FunD.kbinds0 (ps := ["formula", "inside"]) F_write_formula 1 ["inside"] [] (fun us mv ws => us ++ ws) (List.cons_ne_nil _ _) (fun q h => (by cases h)) (fun a _ c => a.append c) (fun _ _ _ _ _ _ us mv ws h1 h2 h3 => match us, h1, mv, h2, ws, h3 with | [_], _, [], _, [_], _ => rfl)
  have C_is_word : Cal P w K mg base 1 "is_word" (spIsWord (He.cT K ("is_word", none)).2) [] := ⟨_, fd_is_word, ["text"], [], ok_is_word (fnT_of (p := ("is_word", none)) (dvs := []) (kws := []) F_is_word) TB G hW tW, (He.glo_ok X N (c.fact 0 (f := .glo "is_word") rfl)), F_is_word.kp, b_is_word, .nil⟩
  have C_u_length : Cal P w K mg base 1 "_length" (spLength) [] := ⟨_, fd_u_length, ["text", "at"], [], ok_length F_u_length G hO tO, (He.glo_ok X N (c.fact 1 (f := .glo "_length") rfl)), F_u_length.kp, b_u_length, .nil⟩
  have C_words_of : CalX P w K mg base 3 "words_of" (spWords (He.ga K "BadText")) [] := ⟨_, fd_words_of, ["text"], [], ok_words_of F_words_of G (XE base) C_u_length, (He.glo_ok X N (c.fact 2 (f := .glo "words_of") rfl)), F_words_of.kp, b_words_of, .nil⟩
  have MX_Reader : MakX P w K mg base 4 "Reader" (He.ga K "Reader") (spInit (He.ga K "Reader") (He.ga K "BadText")) := ⟨_, fd_Reader___init__, ["self", "text"], He.mkr_ok (c.fact 36 (f := .mkr "Reader") rfl), ok_init F_Reader___init__ G RC C_words_of, (He.glo_ok X N (c.fact 31 (f := .glo "Reader") rfl)), b_Reader___init__⟩
  have S_word : MetS P w K mg base 1 (He.ga K "Reader") "word" (spWord (He.ga K "Reader")) := ⟨RC.cl, _, fd_Reader_word, ["self"], (He.meth_ok (c.fact 37 (f := .meth "Reader" "word") rfl)), ok_word F_Reader_word G RC, b_Reader_word⟩
  have X_refuse : MetX P w K mg base 3 (He.ga K "Reader") "refuse" (spRefuse (He.ga K "Reader") (He.ga K "BadText")) := ⟨RC.cl, _, fd_Reader_refuse, ["self"], (He.meth_ok (c.fact 38 (f := .meth "Reader" "refuse") rfl)), ok_refuse F_Reader_refuse G RC (XE base), b_Reader_refuse⟩
  have X_take : MetX P w K mg base 4 (He.ga K "Reader") "take" (spTake (He.ga K "Reader") (He.ga K "BadText") (He.cT K ("is_word", none)).2) := ⟨RC.cl, _, fd_Reader_take, ["self", "word"], (He.meth_ok (c.fact 39 (f := .meth "Reader" "take") rfl)), ok_take F_Reader_take G RC S_word X_refuse, b_Reader_take⟩
  have X_take_name : MetX P w K mg base 4 (He.ga K "Reader") "take_name" (spM (He.ga K "Reader") (He.ga K "BadText") (He.cT K ("is_word", none)).2 (fun _ => valStr) fun _ => Df.nameR) := ⟨RC.cl, _, fd_Reader_take_name, ["self"], (He.meth_ok (c.fact 40 (f := .meth "Reader" "take_name") rfl)), ok_take_name F_Reader_take_name G RC S_word X_refuse C_is_word, b_Reader_take_name⟩
  have X_take_number : MetX P w K mg base 4 (He.ga K "Reader") "take_number" (spM (He.ga K "Reader") (He.ga K "BadText") (He.cT K ("is_word", none)).2 (fun _ => valInt) fun _ => Df.numR) := ⟨RC.cl, _, fd_Reader_take_number, ["self"], (He.meth_ok (c.fact 41 (f := .meth "Reader" "take_number") rfl)), ok_take_number F_Reader_take_number G RC S_word X_refuse, b_Reader_take_number⟩
  have X_term : MetX P w K mg base 5 (He.ga K "Reader") "term" (spM (He.ga K "Reader") (He.ga K "BadText") (He.cT K ("is_word", none)).2 valAt fun _ => Df.termR) := ⟨RC.cl, _, fd_Reader_term, ["self"], (He.meth_ok (c.fact 42 (f := .meth "Reader" "term") rfl)), ok_term F_Reader_term G RC S_word X_take_number X_take_name, b_Reader_term⟩
  have X_comparison : MetX P w K mg base 6 (He.ga K "Reader") "comparison" (spM (He.ga K "Reader") (He.ga K "BadText") (He.cT K ("is_word", none)).2 valFm fun _ => Df.cmpR) := ⟨RC.cl, _, fd_Reader_comparison, ["self"], (He.meth_ok (c.fact 43 (f := .meth "Reader" "comparison") rfl)), ok_comparison F_Reader_comparison G RC hO tO S_word X_refuse X_term, b_Reader_comparison⟩
  have RD : ∀ d : Nat, MetX P w K mg base (4 * d + 7) (He.ga K "Reader") "denial" (spDen (He.ga K "Reader") (He.ga K "BadText") (He.cT K ("is_word", none)).2 d) ∧ MetX P w K mg base (4 * d + 7) (He.ga K "Reader") "row" (spRow (He.ga K "Reader") (He.ga K "BadText") (He.cT K ("is_word", none)).2 d) := fun d => by
    induction d with
    | zero => exact ⟨⟨RC.cl, _, fd_Reader_denial, ["self"], (He.meth_ok (c.fact 45 (f := .meth "Reader" "denial") rfl)), ok_denial0 (n := 6) F_Reader_denial sc_Reader_denial, b_Reader_denial⟩, ⟨RC.cl, _, fd_Reader_row, ["self", "word"], (He.meth_ok (c.fact 46 (f := .meth "Reader" "row") rfl)), ok_row0 (n := 6) F_Reader_row sc_Reader_row, b_Reader_row⟩⟩
    | succ d ih =>
      have XF : MetX P w K mg base (4 * d + 8) (He.ga K "Reader") "formula" (spForm (He.ga K "Reader") (He.ga K "BadText") (He.cT K ("is_word", none)).2 d) := ⟨RC.cl, _, fd_Reader_formula, ["self"], (He.meth_ok (c.fact 47 (f := .meth "Reader" "formula") rfl)), ok_formula d F_Reader_formula G ih.2, b_Reader_formula⟩
      have XQ : MetX P w K mg base (4 * d + 9) (He.ga K "Reader") "quantified" (spQu (He.ga K "Reader") (He.ga K "BadText") (He.cT K ("is_word", none)).2 d) := ⟨RC.cl, _, fd_Reader_quantified, ["self"], (He.meth_ok (c.fact 44 (f := .meth "Reader" "quantified") rfl)), ok_quantified d F_Reader_quantified G RC S_word X_refuse X_take_name XF X_take, b_Reader_quantified⟩
      have e : 4 * (d + 1) + 7 = 4 * d + 10 + 1 := by omega
      rw [e]
      exact ⟨⟨RC.cl, _, fd_Reader_denial, ["self"], (He.meth_ok (c.fact 45 (f := .meth "Reader" "denial") rfl)), ok_denialS d F_Reader_denial G RC S_word ih.1 XQ XF X_take X_comparison, b_Reader_denial⟩, ⟨RC.cl, _, fd_Reader_row, ["self", "word"], (He.meth_ok (c.fact 46 (f := .meth "Reader" "row") rfl)), ok_rowS d F_Reader_row G RC S_word ih.1 ih.2, b_Reader_row⟩⟩
  have XF30 : MetX P w K mg base (4 * 30 + 8) (He.ga K "Reader") "formula" (spForm (He.ga K "Reader") (He.ga K "BadText") (He.cT K ("is_word", none)).2 30) := ⟨RC.cl, _, fd_Reader_formula, ["self"], (He.meth_ok (c.fact 47 (f := .meth "Reader" "formula") rfl)), ok_formula 30 F_Reader_formula G (RD 30).2, b_Reader_formula⟩
  have C_read_formula : CalX P w K mg base 130 "read_formula" (spRead (He.ga K "BadText") (He.cT K ("is_word", none)).2 30) [] := ⟨_, fd_read_formula, ["text"], [], (ok_read_formula 30 F_read_formula G RC MX_Reader S_word X_refuse XF30).mono (by decide), (He.glo_ok X N (c.fact 3 (f := .glo "read_formula") rfl)), F_read_formula.kp, b_read_formula, .nil⟩
  have C_write_atom : Cal P w K mg base 1 "write_atom" (spWAtom) [] := ⟨_, fd_write_atom, ["atom"], [], ok_write_atom F_write_atom G, (He.glo_ok X N (c.fact 4 (f := .glo "write_atom") rfl)), F_write_atom.kp, b_write_atom, .nil⟩
  have WF : ∀ d : Nat, Cal P w K mg base (d + 2) "write_formula" (spWrite d) [.bl false] ∧ CalK P w K mg base (d + 2) "write_formula" (spWrite d) 1 ["inside"] (fun vs zs => vs ++ zs) := fun d => by
    induction d with
    | zero => exact ⟨⟨_, fd_write_formula, ["formula", "inside"], ds_wf, ok_write_formula0 (n := 1) F_write_formula, (He.glo_ok X N (c.fact 5 (f := .glo "write_formula") rfl)), F_write_formula.kp, b_wf, v_wf⟩, ⟨_, fd_write_formula, ["formula", "inside"], _, ok_write_formula0 (n := 1) F_write_formula, (He.glo_ok X N (c.fact 5 (f := .glo "write_formula") rfl)), F_write_formula.kp, List.cons_ne_nil _ _, k_wf⟩⟩
    | succ d ih =>
      have O := ok_write_formulaS d F_write_formula G C_write_atom ih.1 ih.2
      exact ⟨⟨_, fd_write_formula, ["formula", "inside"], ds_wf, O, (He.glo_ok X N (c.fact 5 (f := .glo "write_formula") rfl)), F_write_formula.kp, b_wf, v_wf⟩, ⟨_, fd_write_formula, ["formula", "inside"], _, O, (He.glo_ok X N (c.fact 5 (f := .glo "write_formula") rfl)), F_write_formula.kp, List.cons_ne_nil _ _, k_wf⟩⟩
  have FE : ∀ d : Nat, Cal P w K mg base (d + 2) "_free" (spFree d) [] := fun d => by
    induction d with
    | zero => exact ⟨_, fd_u_free, ["formula", "bound", "found"], [], ok_free0 (n := 1) F_u_free, (He.glo_ok X N (c.fact 7 (f := .glo "_free") rfl)), F_u_free.kp, b_u_free, .nil⟩
    | succ d ih => exact ⟨_, fd_u_free, ["formula", "bound", "found"], [], ok_freeS d F_u_free G ih, (He.glo_ok X N (c.fact 7 (f := .glo "_free") rfl)), F_u_free.kp, b_u_free, .nil⟩
  have C_free_names : Cal P w K mg base 9 "free_names" (spFN 6) [] := ⟨_, fd_free_names, ["formula"], [], ok_free_names 6 F_free_names G (FE 6), (He.glo_ok X N (c.fact 6 (f := .glo "free_names") rfl)), F_free_names.kp, b_free_names, .nil⟩
  have LF : ∀ d : Nat, Cal P w K mg base (d + 2) "_law_free" (spLFree d) [] := fun d => by
    induction d with
    | zero => exact ⟨_, fd_u_law_free, ["tree", "bound"], [], ok_law_free0 (n := 1) F_u_law_free, (He.glo_ok X N (c.fact 14 (f := .glo "_law_free") rfl)), F_u_law_free.kp, b_u_law_free, .nil⟩
    | succ d ih => exact ⟨_, fd_u_law_free, ["tree", "bound"], [], ok_law_freeS d F_u_law_free G ih, (He.glo_ok X N (c.fact 14 (f := .glo "_law_free") rfl)), F_u_law_free.kp, b_u_law_free, .nil⟩
  have C_u_law_draw : Cal P w K mg base 1 "_law_draw" (spDraw K) [] := ⟨_, fd_u_law_draw, ["script", "at", "many"], [], ok_draw F_u_law_draw G, (He.glo_ok X N (c.fact 8 (f := .glo "_law_draw") rfl)), F_u_law_draw.kp, b_u_law_draw, .nil⟩
  have C_u_law_atom : Cal P w K mg base 2 "_law_atom" (spLAtom K) [] := ⟨_, fd_u_law_atom, ["script", "at", "names"], [], ok_law_atom F_u_law_atom G C_u_law_draw, (He.glo_ok X N (c.fact 9 (f := .glo "_law_atom") rfl)), F_u_law_atom.kp, b_u_law_atom, .nil⟩
  have C_u_law_compare : Cal P w K mg base 3 "_law_compare" (spLCmp K) [] := ⟨_, fd_u_law_compare, ["script", "at", "names"], [], ok_law_compare F_u_law_compare G C_u_law_draw C_u_law_atom, (He.glo_ok X N (c.fact 10 (f := .glo "_law_compare") rfl)), F_u_law_compare.kp, b_u_law_compare, .nil⟩
  have TR : ∀ d : Nat, Cal P w K mg base (d + 3) "_law_tree" (spTree K d) [] := fun d => by
    induction d with
    | zero => exact ⟨_, fd_u_law_tree, ["script", "at", "names", "fresh", "depth"], [], ok_law_tree0 (n := 2) F_u_law_tree, (He.glo_ok X N (c.fact 11 (f := .glo "_law_tree") rfl)), F_u_law_tree.kp, b_u_law_tree, .nil⟩
    | succ d ih => exact ⟨_, fd_u_law_tree, ["script", "at", "names", "fresh", "depth"], [], ok_law_treeS d F_u_law_tree G C_u_law_draw C_u_law_compare ih, (He.glo_ok X N (c.fact 11 (f := .glo "_law_tree") rfl)), F_u_law_tree.kp, b_u_law_tree, .nil⟩
  have C_u_law_text_of : Cal P w K mg base 1 "_law_text_of" (spWAtom) [] := ⟨_, fd_u_law_text_of, ["atom"], [], ok_law_text_of F_u_law_text_of G, (He.glo_ok X N (c.fact 12 (f := .glo "_law_text_of") rfl)), F_u_law_text_of.kp, b_u_law_text_of, .nil⟩
  have TX : ∀ d : Nat, Cal P w K mg base (d + 2) "_law_text" (spLText d) [] := fun d => by
    induction d with
    | zero => exact ⟨_, fd_u_law_text, ["tree", "inside"], [], ok_law_text0 (n := 1) F_u_law_text, (He.glo_ok X N (c.fact 13 (f := .glo "_law_text") rfl)), F_u_law_text.kp, b_u_law_text, .nil⟩
    | succ d ih => exact ⟨_, fd_u_law_text, ["tree", "inside"], [], ok_law_textS d F_u_law_text G C_u_law_text_of ih, (He.glo_ok X N (c.fact 13 (f := .glo "_law_text") rfl)), F_u_law_text.kp, b_u_law_text, .nil⟩
  have C_u_law_refused : Cal P w K mg base 131 "_law_refused" (spLRef (He.cT K ("is_word", none)).2 30) [] := ⟨_, fd_u_law_refused, ["text", "column"], [], ok_law_refused 30 F_u_law_refused G (XE base) ET hCL C_read_formula, (He.glo_ok X N (c.fact 15 (f := .glo "_law_refused") rfl)), F_u_law_refused.kp, b_u_law_refused, .nil⟩
  have C_u_law_known : Cal P w K mg base 1 "_law_known" (spKnown) [] := ⟨_, fd_u_law_known, ["turn"], [], ok_law_known F_u_law_known G, (He.glo_ok X N (c.fact 16 (f := .glo "_law_known") rfl)), F_u_law_known.kp, b_u_law_known, .nil⟩
  exact ok_law F_law G C_u_law_draw C_u_law_known C_u_law_refused C_read_formula (LF 6) C_free_names (TR 5) (WF 5).1 (TX 5)
end K1
open PySem PySem.W PySem.Calls PyProof.Rows
theorem PySem.Challenge.cw_loopsheds_k12_formula_texts_holds : PySem.Challenge.rw_loopsheds_k12_formula_texts.Holds := by
  w_on; o_law
  refine HandSHeadRun.head_any (r := OpenLaw.row PySem.Challenge.rw_loopsheds_k12_formula_texts) (q := view (OpenLaw.row PySem.Challenge.rw_loopsheds_k12_formula_texts).prog [26]) (H := K1.hk) (ob := K1.ob) (M := 4000) (loose := K1.names) (d := HandSHeadRun.topDef (OpenLaw.row PySem.Challenge.rw_loopsheds_k12_formula_texts).prog 26) (kwd := []) K1.ob_eq
    (by kernel_rfl) (fun s => by kernel_rfl) K1.run (by kernel_rfl) (by kernel_rfl) (by kernel_rfl) (by rfl) (by first | assumption | decide +kernel) (by decide +kernel) ⟨rfl, rfl, rfl, rfl, rfl, by decide +kernel⟩ ?hw ?hc
  case hw => w_witness2
  case hc =>
    refine LamX.walk_ofTsE (l := PySem.Challenge.rw_loopsheds_k12_formula_texts) (n := 63) (k := 132) (x := "script") (CX := fun _ => L2.CX0) rfl (by decide) (by kernel_rfl) ⟨rfl, by decide, by decide⟩ ?F (fun _ _ _ _ _ z => z)
    intro w mg fa h Y G hmg0
    obtain ⟨K, KX, c⟩ := Y
    have hmg : mg ("law" : PySem.Str) = some (.ref fa) := by
      have e : (HandSHeadRun.topDef (OpenLaw.row PySem.Challenge.rw_loopsheds_k12_formula_texts).prog 26).name = ("law" : PySem.Str) := by kernel_rfl
      rw [← e]
      exact hmg0
    obtain ⟨fd, hb, hF⟩ := K1.facts (P := (PySem.Challenge.rw_loopsheds_k12_formula_texts).prog) (w := w) KX G hmg c.s (by kernel_rfl) (by kernel_rfl)
    refine ⟨K, KX, fd, [He.cT K ("is_word", none)], K1.spLaw K (He.cT K ("is_word", none)).2, fun p hp => ?_, fun p hp => ?_, fun p hp => ?_, hb, fun H a ns hl _ hT hS => ⟨a, ns, rfl, ⟨hS, Nat.le_trans hl (by decide)⟩, ⟨#[], hT _ (.head _), True.intro⟩, fun _ => rfl⟩, fun base kb nb hT => hF base kb nb ⟨(hT _ (.head _)).code, (hT _ (.head _)).bm, (hT _ (.head _)).gP⟩⟩
    · rw [List.mem_singleton.mp hp]
      exact c.empty _ (.head _)
    · rw [List.mem_singleton.mp hp]
      exact c.out _ (.head _)
    · rw [List.mem_singleton.mp hp]
      exact codeHd_of_K KX (c.hd _ (.head _))

