import PyProof.Rows.All
import Wide.All
import OpenK.AllK
import Wide.FinOn
import HandS.ForMost
import HandS.Text
import HandS.ReplaceList
import HandS.ForExc
import HandS.IsInst
import HandS.Defaults
import HandS.TupAny
import HandS.Evl
import HandS.ExcInit
import HandS.ExcIs
import HandS.ExcField
import HandS.Style
import HandS.Conv
import HandS.Wide
import HandS.Codes
import HandS.More
import HandS.Small
import HandS.ReplaceLit
import HandS.Strs
import HandS.Walk
import PyProof.ExcBaseAll.ValueError
import HandS.ExcOwn
import HandS.RaiseMore
import PySem.Challenge.RW_restlesshelf_k63_whole_blocks_as_text
section
set_option Elab.async false
set_option linter.all false
set_option maxRecDepth 100000
set_option maxHeartbeats 4000000
/-! M1: the data, the printer, the reader, as plain functions. -/
namespace RS
open PySem L2 TL

/-! ### data -/
inductive Sm where
  | num (i : Int) | nam (x : Str) | bin (p : Bool) (a b : Sm)
inductive Pt where
  | letP (x : Str) (s : Sm) | say (s : Sm) | ask (x : Str) | ifP (s : Sm) (z : Bool) (b c : List Pt)
  | whl (s : Sm) (z : Bool) (b : List Pt) | rep (n : Nat) (b : List Pt) | doP (x : Str) | stop
def Sm.isBin : Sm → Bool
  | .bin _ _ _ => true
  | _ => false
structure Pg where
  names : List Str
  procs : List (Str × List Pt)
  block : List Pt

/-! ### texts -/
def mk (l : List Nat) : Str := ⟨l.toArray⟩
/-- str of an int -/
def numL' (i : Int) : List Nat := if i < 0 then 45 :: numL i.natAbs else numL i.toNat
def numS (i : Int) : Str := mk (numL' i)
/-- a text cut at a sign -/
def cutA (s : Nat) : List Nat → List Nat → List (List Nat)
  | acc, [] => [acc]
  | acc, c :: r => if c = s then acc :: cutA s [] r else cutA s (acc ++ [c]) r
def cut (s : Nat) (l : List Nat) : List (List Nat) := cutA s [] l
def wordsOf (l : List Nat) : List Str := ((cut 32 l).filter fun w => !w.isEmpty).map mk

/-! ### the printer -/
def sg : Bool → Str
  | true => "+"
  | false => "-"
def eqS : Bool → Str
  | true => "="
  | false => "!="
def sumW : Sm → Bool → List Str
  | .num i, _ => [numS i]
  | .nam x, _ => [x]
  | .bin p a b, false => sumW a false ++ [sg p] ++ sumW b true
  | .bin p a b, true => (["("] : List Str) ++ (sumW a false ++ [sg p] ++ sumW b true) ++ ([")"] : List Str)
def tsW (s : Sm) (z : Bool) : List Str := sumW s false ++ ([eqS z, "0"] : List Str)
mutual
def linesP : Pt → List (List Str)
  | .letP x s => [(["let", x, "="] : List Str) ++ sumW s false]
  | .say s => [(["say"] : List Str) ++ sumW s false]
  | .ask x => [(["ask", x] : List Str)]
  | .doP x => [(["do", x] : List Str)]
  | .stop => [(["stop"] : List Str)]
  | .whl s z b => [(["while"] : List Str) ++ tsW s z] ++ linesB b ++ [(["end"] : List Str)]
  | .rep n b => [(["repeat", numS n] : List Str)] ++ linesB b ++ [(["end"] : List Str)]
  | .ifP s z b [] => [(["if"] : List Str) ++ tsW s z] ++ linesB b ++ [] ++ [(["end"] : List Str)]
  | .ifP s z b (c :: cs) => [(["if"] : List Str) ++ tsW s z] ++ linesB b ++ ([(["else"] : List Str)] ++ (linesP c ++ linesB cs)) ++ [(["end"] : List Str)]
def linesB : List Pt → List (List Str)
  | [] => []
  | p :: r => linesP p ++ linesB r
end
def procL (q : Str × List Pt) : List (List Str) := [(["to", q.1] : List Str)] ++ linesB q.2 ++ [(["end"] : List Str)]
def progL (p : Pg) : List (List Str) := [(["names"] : List Str) ++ p.names] ++ (p.procs.map procL).flatten ++ linesB p.block
def jn (ws : List Str) : Str := Str.join " " ws
def textOf (p : Pg) : Str := Str.join "\n" ((progL p).map jn)

/-! ### the reader -/
def kept : List Str := ["names", "to", "end", "let", "say", "ask", "if", "else", "while", "repeat", "do", "stop"]
def letters : List Nat := [97, 98, 99, 100, 101, 102, 103, 104, 105, 106, 107, 108, 109, 110, 111, 112, 113, 114, 115, 116, 117, 118, 119, 120, 121, 122]
def figures : List Nat := [48, 49, 50, 51, 52, 53, 54, 55, 56, 57]
def isName (w : Str) : Bool := decide (1 ≤ w.length) && decide (w.length ≤ 8) && !decide (w ∈ kept) && (tl w).all fun c => decide (c ∈ letters)
def figs (w : Str) : List Nat := match tl w with
  | 45 :: r => r
  | l => l
def isNeg (w : Str) : Bool := match tl w with
  | 45 :: _ => true
  | _ => false
def numVal (w : Str) : Int := if isNeg w = true then -((NumText.digitsVal (figs w) : Nat) : Int) else ((NumText.digitsVal (figs w) : Nat) : Int)
def numIn (w : Str) (lo hi : Int) : Option Int :=
  if (figs w).isEmpty = true ∨ 5 < (figs w).length ∨ ((figs w).all fun c => decide (c ∈ figures)) = false then none
  else if numS (numVal w) = w ∧ lo ≤ numVal w ∧ numVal w ≤ hi then some (numVal w) else none
def terms : Sm → Nat
  | .bin _ a b => terms a + terms b
  | _ => 1
def deep : Sm → Nat
  | .bin _ a b => 1 + max (deep a) (deep b)
  | _ => 0
/-- signs of a sum -/
def sgOf (w : Str) : Option Bool := if w = "+" then some true else if w = "-" then some false else none
def tsOf (w : Str) : Option Bool := if w = "=" then some true else if w = "!=" then some false else none
/-- an error tells how many words are left from the one that cannot stand on -/
abbrev RE := Except Nat (Sm × List Str)
def more (one : List Str → RE) : Nat → Sm → List Str → RE
  | 0, s, b => .ok (s, b)
  | _ + 1, s, [] => .ok (s, [])
  | k + 1, s, w :: r => match sgOf w with
    | none => .ok (s, w :: r)
    | some p => match one r with
      | .error e => .error e
      | .ok (o, a) => if 24 < terms (.bin p s o) ∨ 6 < deep (.bin p s o) then .error (r.length + 1) else more one k (.bin p s o) a
def whole (one : List Str → RE) (r : List Str) : RE := match one r with
  | .error e => .error e
  | .ok (s, b) => more one b.length s b
/-- behind an open bracket's sum -/
def closing : RE → RE
  | .error e => .error e
  | .ok (s, b) => if s.isBin = true then (match b with
    | [] => .error 0
    | w :: r => if w = ")" then .ok (s, r) else .error (r.length + 1)) else .error b.length
def atom (names : List Str) (w : Str) (r : List Str) : RE := match numIn w (-1000) 1000 with
  | some i => .ok (.num i, r)
  | none => if w ∈ names then .ok (.nam w, r) else .error (r.length + 1)
def oneN (names : List Str) : Nat → List Str → RE
  | 0, [] => .error 0
  | 0, w :: r => if w = "(" then .error (r.length + 1) else atom names w r
  | _ + 1, [] => .error 0
  | n + 1, w :: r => if w = "(" then closing (whole (oneN names n) r) else atom names w r

inductive Kd where
  | prog | to (x : Str) | iff (s : Sm) (z : Bool) | whl (s : Sm) (z : Bool) | rep (n : Nat)
structure Op where
  kd : Kd
  dn : Option (List Pt)
  cu : List Pt
structure Rd where
  names : Option (List Str)
  procs : List (Str × List Pt)
  /-- the top first -/
  tw : List Op
  parts : Nat
  begun : Bool
def rd0 : Rd := ⟨none, [], [⟨.prog, none, []⟩], 0, false⟩
def Op.isTo (o : Op) : Bool := match o.kd with
  | .to _ => true
  | _ => false
def Op.isIf (o : Op) : Bool := match o.kd with
  | .iff _ _ => true
  | _ => false
def hasTo (l : List Op) : Bool := match l.reverse with
  | _ :: o :: _ => o.isTo
  | _ => false
def depthR (l : List Op) : Nat := l.length - (if hasTo l = true then 1 else 0)
abbrev RT := Except Nat Rd
def needSize {α : Type} (ws : List Str) (n : Nat) (k : α) : Except Nat α := if ws.length < n then .error (ws.length + 1) else if n < ws.length then .error (n + 1) else .ok k
def checkNames (seen : List Str) : List Str → Option Nat
  | [] => none
  | w :: r => if seen.length = 5 ∨ isName w = false ∨ w ∈ seen then some (seen.length + 2) else checkNames (seen ++ [w]) r
def takeNames (st : Rd) (ws : List Str) : RT := match checkNames [] ws.tail with
  | some e => .error e
  | none => if ws.length = 1 then .error 2 else .ok { st with names := some ws.tail }
def known (st : Rd) : List Str := st.procs.map (·.1)
def badTo (st : Rd) : List Str → Bool
  | _ :: w :: _ => !isName w || decide (w ∈ known st)
  | _ => false
def word1 : List Str → Str
  | _ :: w :: _ => w
  | _ => ""
def takeTo (st : Rd) (ws : List Str) : RT :=
  if st.begun = true ∨ 1 < st.tw.length ∨ st.procs.length = 4 then .error 1
  else if badTo st ws = true then .error 2
  else needSize ws 2 { st with tw := ⟨.to (word1 ws), none, []⟩ :: st.tw }
def addP (p : Pt) : List Op → List Op
  | [] => []
  | o :: r => { o with cu := o.cu ++ [p] } :: r
def Op.b0 (o : Op) : List Pt := o.dn.getD o.cu
def Op.b1 (o : Op) : List Pt := if o.dn.isSome = true then o.cu else []
def closeR (st : Rd) : Rd := match st.tw with
  | [] => st
  | top :: r => match top.kd with
    | .to x => { st with procs := st.procs ++ [(x, top.b0)], tw := r }
    | .rep n => { st with tw := addP (.rep n top.b0) r }
    | .whl s z => { st with tw := addP (.whl s z top.b0) r }
    | .iff s z => { st with tw := addP (.ifP s z top.b0 top.b1) r }
    | .prog => st
def elseR (st : Rd) : Rd := match st.tw with
  | [] => st
  | top :: r => { st with tw := { top with dn := some top.cu, cu := [] } :: r }
def noElse : List Op → Bool
  | [] => true
  | top :: _ => !top.isIf || top.dn.isSome
def takeTurn (st : Rd) (first : Str) (ws : List Str) : RT :=
  if (first = "else" ∧ noElse st.tw = true) ∨ st.tw.length = 1 then .error 1
  else needSize ws 1 (if first = "else" then elseR st else closeR st)
def sumToEnd (names : List Str) (ws : List Str) (at_ : Nat) : Except Nat Sm := match whole (oneN names 6) (ws.drop at_) with
  | .error e => .error (ws.length - e + 1)
  | .ok (s, b) => if b = [] then .ok s else .error (ws.length - b.length + 1)
def testOf (names : List Str) (ws : List Str) : Except Nat (Sm × Bool) := match whole (oneN names 6) (ws.drop 1) with
  | .error e => .error (ws.length - e + 1)
  | .ok (_, []) => .error (ws.length + 1)
  | .ok (s, w :: r) => match tsOf w with
    | none => .error (ws.length - (r.length + 1) + 1)
    | some z => match r with
      | [] => .error (ws.length + 1)
      | w2 :: r2 => if w2 = "0" then (if r2 = [] then .ok (s, z) else .error (ws.length - r2.length + 1)) else .error (ws.length - (r2.length + 1) + 1)
def badIn (names : List Str) : List Str → Bool
  | _ :: w :: _ => !decide (w ∈ names)
  | _ => false
def smallPart (names known : List Str) (first : Str) (ws : List Str) : Except Nat Pt :=
  if first = "stop" then needSize ws 1 .stop
  else if first = "ask" then (if badIn names ws = true then .error 2 else needSize ws 2 (.ask (word1 ws)))
  else if first = "do" then (if badIn known ws = true then .error 2 else needSize ws 2 (.doP (word1 ws)))
  else if first = "say" then (match sumToEnd names ws 1 with | .error e => .error e | .ok s => .ok (.say s))
  else if ws.length < 2 ∨ word1 ws ∉ names then .error 2
  else if ws.length < 3 ∨ ws[2]? ≠ some ("=" : Str) then .error 3
  else (match sumToEnd names ws 3 with | .error e => .error e | .ok s => .ok (.letP (word1 ws) s))
def badRep : List Str → Bool
  | _ :: w :: _ => (numIn w 0 6).isNone
  | _ => false
def isBlk (first : Str) : Bool := decide (first = "if") || decide (first = "while") || decide (first = "repeat")
def takePart (st : Rd) (first : Str) (ws : List Str) : RT :=
  if st.parts = 60 ∨ (isBlk first = true ∧ depthR st.tw = 6) then .error 1
  else
    let st1 : Rd := { st with begun := st.begun || decide (st.tw.length = 1), parts := st.parts + 1 }
    if first = "if" ∨ first = "while" then (match testOf (st.names.getD []) ws with
      | .error e => .error e
      | .ok (s, z) => .ok { st1 with tw := ⟨if first = "if" then .iff s z else .whl s z, none, []⟩ :: st.tw })
    else if first = "repeat" then (if badRep ws = true then .error 2 else needSize ws 2 { st1 with tw := ⟨.rep (numVal (word1 ws)).toNat, none, []⟩ :: st.tw })
    else (match smallPart (st.names.getD []) (known st) first ws with
      | .error e => .error e
      | .ok p => .ok { st1 with tw := addP p st.tw })
def takeR (st : Rd) : List Str → RT
  | [] => .ok st
  | first :: r =>
    if first ∉ kept ∨ decide (first = "names") ≠ st.names.isNone then .error 1
    else if first = "names" then takeNames st (first :: r)
    else if first = "to" then takeTo st (first :: r)
    else if first = "else" ∨ first = "end" then takeTurn st first (first :: r)
    else takePart st first (first :: r)
def runL : Nat → Rd → List (List Str) → Except (Nat × Nat) Rd
  | _, st, [] => .ok st
  | k, st, ws :: r => if ws = [] then runL (k + 1) st r else match takeR st ws with
    | .error e => .error (k + 1, e)
    | .ok st' => runL (k + 1) st' r
def botB (l : List Op) : List Pt := match l.reverse with
  | o :: _ => o.b0
  | [] => []
def finish (n : Nat) (st : Rd) : Except (Nat × Nat) Pg := match st.names with
  | none => .error (n + 1, 1)
  | some ns => if 1 < st.tw.length then .error (n + 1, 1) else .ok ⟨ns, st.procs, botB st.tw⟩
def readT (t : List Nat) : Except (Nat × Nat) Pg := match runL 0 rd0 ((cut 10 t).map wordsOf) with
  | .error e => .error e
  | .ok st => finish (cut 10 t).length st
def told (t : List Nat) : Option (Nat × Nat) := match readT t with
  | .error e => some e
  | .ok _ => none
def tx (s : String) : List Nat := tl (Str.ofString s)
end RS
end
section
set_option Elab.async false
set_option linter.all false
set_option maxRecDepth 100000
set_option maxHeartbeats 4000000
/-! M2: sums, printed and read again. -/
namespace RS
open PySem L2 TL

theorem tl_mk' (l : List Nat) : tl (mk l) = l := rfl
theorem mk_tl' (x : Str) : mk (tl x) = x := ext_tl rfl
theorem mk_inj {a b : List Nat} (h : mk a = mk b) : a = b := congrArg tl h
theorem tl_numS (i : Int) : tl (numS i) = numL' i := rfl

/-! ### numbers -/
theorem mem_figures {c : Nat} : c ∈ figures ↔ 48 ≤ c ∧ c ≤ 57 := by
  simp only [figures, List.mem_cons, List.not_mem_nil, or_false]
  omega
theorem mem_letters {c : Nat} : c ∈ letters ↔ 97 ≤ c ∧ c ≤ 122 := by
  simp only [letters, List.mem_cons, List.not_mem_nil, or_false]
  omega
theorem numL_all (n : Nat) : ((numL n).all fun c => decide (c ∈ figures)) = true := by
  rw [List.all_eq_true]
  intro c hc
  have h := numL_digits n c hc
  exact decide_eq_true (mem_figures.mpr ⟨by omega, by omega⟩)
theorem numL_cons (n : Nat) : ∃ c r, numL n = c :: r ∧ 48 ≤ c ∧ c ≤ 57 := by
  cases h : numL n with
  | nil => exact absurd h (numL_ne n)
  | cons c r =>
    have q := numL_digits n c (by rw [h]; exact List.mem_cons_self)
    exact ⟨c, r, rfl, by omega, by omega⟩
theorem figs_neg {i : Int} (h : i < 0) : figs (numS i) = numL i.natAbs ∧ isNeg (numS i) = true := by
  unfold figs isNeg
  rw [tl_numS]
  unfold numL'
  rw [if_pos h]
  exact ⟨rfl, rfl⟩
theorem figs_pos {i : Int} (h : ¬ i < 0) : figs (numS i) = numL i.toNat ∧ isNeg (numS i) = false := by
  unfold figs isNeg
  rw [tl_numS]
  unfold numL'
  rw [if_neg h]
  obtain ⟨c, r, e, h1, h2⟩ := numL_cons i.toNat
  rw [e]
  have hc : c ≠ 45 := by omega
  constructor
  · split
    · rename_i heq
      cases heq
      exact absurd rfl hc
    · rfl
  · split
    · rename_i heq
      cases heq
      exact absurd rfl hc
    · rfl
theorem numVal_num (i : Int) : numVal (numS i) = i := by
  unfold numVal
  by_cases h : i < 0
  · obtain ⟨e1, e2⟩ := figs_neg h
    rw [e1, e2, if_pos rfl, numL_val]
    omega
  · obtain ⟨e1, e2⟩ := figs_pos h
    rw [e1, e2, if_neg (by decide), numL_val]
    omega
theorem numIn_num {i lo hi : Int} (h1 : -100000 < i) (h2 : i < 100000) (h3 : lo ≤ i) (h4 : i ≤ hi) : numIn (numS i) lo hi = some i := by
  have key : ∃ n : Nat, figs (numS i) = numL n ∧ n < 100000 := by
    by_cases h : i < 0
    · exact ⟨_, (figs_neg h).1, by omega⟩
    · exact ⟨_, (figs_pos h).1, by omega⟩
  obtain ⟨n, e, hn⟩ := key
  unfold numIn
  rw [e, numVal_num]
  have hl : (numL n).length ≤ 5 := numL_len (by decide) hn
  have he : (numL n).isEmpty = false := by
    cases q : numL n with
    | nil => exact absurd q (numL_ne n)
    | cons _ _ => rfl
  rw [if_neg, if_pos ⟨rfl, h3, h4⟩]
  rw [he, numL_all]
  intro h
  rcases h with h | h | h
  · cases h
  · omega
  · cases h
theorem isName_spec {x : Str} (h : isName x = true) : 1 ≤ x.length ∧ x.length ≤ 8 ∧ x ∉ kept ∧ ∀ c ∈ tl x, 97 ≤ c ∧ c ≤ 122 := by
  unfold isName at h
  simp only [Bool.and_eq_true, Bool.not_eq_true', decide_eq_true_eq, decide_eq_false_iff_not, List.all_eq_true] at h
  obtain ⟨⟨⟨h1, h2⟩, h3⟩, h4⟩ := h
  exact ⟨h1, h2, h3, fun c hc => mem_letters.mp (h4 c hc)⟩
theorem isName_cons {x : Str} (h : isName x = true) : ∃ c r, tl x = c :: r ∧ 97 ≤ c ∧ c ≤ 122 := by
  obtain ⟨h1, _, _, h4⟩ := isName_spec h
  cases e : tl x with
  | nil =>
    rw [len_tl, e] at h1
    exact absurd h1 (by decide)
  | cons c r => exact ⟨c, r, rfl, h4 c (by rw [e]; exact List.mem_cons_self)⟩
theorem numIn_name {x : Str} {lo hi : Int} (h : isName x = true) : numIn x lo hi = none := by
  obtain ⟨c, r, e, h1, h2⟩ := isName_cons h
  have hf : figs x = c :: r := by
    unfold figs
    rw [e]
    split
    · rename_i heq
      cases heq
      omega
    · rfl
  unfold numIn
  rw [if_pos]
  rw [hf]
  right; right
  rw [List.all_cons, decide_eq_false (fun q => by have := mem_figures.mp q; omega)]
  rfl
theorem ne_of_head {x y : Str} {c d : Nat} {r q : List Nat} (hx : tl x = c :: r) (hy : tl y = d :: q) (h : c ≠ d) : x ≠ y := fun e => by
  rw [e, hy] at hx
  cases hx
  exact h rfl
theorem tl_lpar : tl ("(" : Str) = [40] := by decide +kernel
theorem numS_cons (i : Int) : ∃ c r, tl (numS i) = c :: r ∧ (c = 45 ∨ (48 ≤ c ∧ c ≤ 57)) := by
  rw [tl_numS]
  unfold numL'
  split
  · exact ⟨_, _, rfl, .inl rfl⟩
  · obtain ⟨c, r, e, h1, h2⟩ := numL_cons i.toNat
    exact ⟨c, r, e, .inr ⟨h1, h2⟩⟩
theorem numS_lpar (i : Int) : numS i ≠ "(" := by
  obtain ⟨c, r, e, h⟩ := numS_cons i
  exact ne_of_head e tl_lpar (by omega)
theorem name_lpar {x : Str} (h : isName x = true) : x ≠ "(" := by
  obtain ⟨c, r, e, h1, h2⟩ := isName_cons h
  exact ne_of_head e tl_lpar (by omega)

/-! ### sums -/
def okSm (names : List Str) : Sm → Prop
  | .num i => -1000 ≤ i ∧ i ≤ 1000
  | .nam x => x ∈ names ∧ isName x = true
  | .bin _ a b => okSm names a ∧ okSm names b
/-- a sum that may be written -/
def okS (names : List Str) (s : Sm) : Prop := okSm names s ∧ deep s ≤ 6 ∧ terms s ≤ 24
theorem sgOf_sg (p : Bool) : sgOf (sg p) = some p := by cases p <;> decide +kernel
theorem one_atom {names : List Str} (n : Nat) {w : Str} {r : List Str} {s : Sm} (h1 : w ≠ "(") (h2 : atom names w r = .ok (s, r)) : oneN names n (w :: r) = .ok (s, r) := by
  cases n with
  | zero =>
    rw [oneN, if_neg h1, h2]
  | succ n =>
    rw [oneN, if_neg h1, h2]
theorem atom_num {names : List Str} {i : Int} {r : List Str} (h : -1000 ≤ i ∧ i ≤ 1000) : atom names (numS i) r = .ok (.num i, r) := by
  unfold atom
  rw [numIn_num (by omega) (by omega) h.1 h.2]
theorem atom_nam {names : List Str} {x : Str} {r : List Str} (h : x ∈ names) (hx : isName x = true) : atom names x r = .ok (.nam x, r) := by
  unfold atom
  rw [numIn_name hx]
  exact if_pos h
/-- no sign stands first -/
def NoSg : List Str → Prop
  | [] => True
  | w :: _ => sgOf w = none
theorem more_end {one : List Str → RE} {s : Sm} {rest : List Str} (h : NoSg rest) : ∀ k, more one k s rest = .ok (s, rest)
  | 0 => rfl
  | k + 1 => by
    cases rest with
    | nil => rfl
    | cons w r =>
      rw [more]
      have e : sgOf w = none := h
      rw [e]
theorem whole_sum {names : List Str} : ∀ (s : Sm) (n : Nat), okSm names s → deep s ≤ 6 → terms s ≤ 24 →
    (deep s ≤ n + 1 → ∀ rest, ∃ k, rest.length ≤ k ∧ whole (oneN names n) (sumW s false ++ rest) = more (oneN names n) k s rest) ∧
    (deep s ≤ n → ∀ rest, oneN names n (sumW s true ++ rest) = .ok (s, rest))
  | .num i, n, h, _, _ => by
    have e : ∀ rest, oneN names n (numS i :: rest) = .ok (.num i, rest) := fun rest => one_atom n (numS_lpar i) (atom_num h)
    refine ⟨fun _ rest => ⟨rest.length, Nat.le_refl _, ?_⟩, fun _ rest => ?_⟩
    · show whole (oneN names n) (numS i :: rest) = _
      unfold whole
      rw [e]
    · exact e rest
  | .nam x, n, h, _, _ => by
    have e : ∀ rest, oneN names n (x :: rest) = .ok (.nam x, rest) := fun rest => one_atom n (name_lpar h.2) (atom_nam h.1 h.2)
    refine ⟨fun _ rest => ⟨rest.length, Nat.le_refl _, ?_⟩, fun _ rest => ?_⟩
    · show whole (oneN names n) (x :: rest) = _
      unfold whole
      rw [e]
    · exact e rest
  | .bin p a b, n, h, hd, ht => by
    have hd' : 1 + max (deep a) (deep b) ≤ 6 := hd
    have ht' : terms a + terms b ≤ 24 := ht
    have A : ∀ m, deep (.bin p a b) ≤ m + 1 → ∀ rest, ∃ k, rest.length ≤ k ∧ whole (oneN names m) (sumW (.bin p a b) false ++ rest) = more (oneN names m) k (.bin p a b) rest := by
      intro m hm rest
      have hm' : 1 + max (deep a) (deep b) ≤ m + 1 := hm
      obtain ⟨IA, _⟩ := whole_sum a m h.1 (by omega) (by omega)
      obtain ⟨_, IB⟩ := whole_sum b m h.2 (by omega) (by omega)
      obtain ⟨k, hk, e⟩ := IA (by omega) ([sg p] ++ (sumW b true ++ rest))
      have el : sumW (.bin p a b) false ++ rest = sumW a false ++ ([sg p] ++ (sumW b true ++ rest)) := by
        show (sumW a false ++ [sg p] ++ sumW b true) ++ rest = _
        simp [List.append_assoc]
      rw [el, e]
      cases k with
      | zero => simp at hk
      | succ k =>
        refine ⟨k, ?_, ?_⟩
        · simp only [List.length_append, List.length_cons, List.length_nil] at hk
          omega
        · show more (oneN names m) (k + 1) a (sg p :: (sumW b true ++ rest)) = _
          rw [more, sgOf_sg]
          dsimp only
          rw [IB (by omega) rest]
          dsimp only
          rw [if_neg]
          show ¬ (24 < terms a + terms b ∨ 6 < 1 + max (deep a) (deep b))
          omega
    refine ⟨A n, fun hn rest => ?_⟩
    have hn' : 1 + max (deep a) (deep b) ≤ n := hn
    cases n with
    | zero => omega
    | succ m =>
      have el : sumW (.bin p a b) true ++ rest = ("(" : Str) :: (sumW (.bin p a b) false ++ ((")" : Str) :: rest)) := by
        show ((["("] : List Str) ++ (sumW a false ++ [sg p] ++ sumW b true) ++ ([")"] : List Str)) ++ rest = ("(" : Str) :: ((sumW a false ++ [sg p] ++ sumW b true) ++ ((")" : Str) :: rest))
        simp [List.append_assoc]
      rw [el, oneN, if_pos rfl]
      obtain ⟨k, hk, e⟩ := A m (by show 1 + max (deep a) (deep b) ≤ m + 1; omega) ((")" : Str) :: rest)
      rw [e, more_end (by show sgOf ")" = none; decide +kernel)]
      rfl
theorem whole_ok {names : List Str} {s : Sm} {rest : List Str} (h : okS names s) (hr : NoSg rest) : whole (oneN names 6) (sumW s false ++ rest) = .ok (s, rest) := by
  obtain ⟨k, _, e⟩ := (whole_sum s 6 h.1 h.2.1 h.2.2).1 (by have := h.2.1; omega) rest
  rw [e, more_end hr]
end RS
end
section
set_option Elab.async false
set_option linter.all false
set_option maxRecDepth 100000
set_option maxHeartbeats 4000000
/-! M3: blocks and programs, printed and read again, line by line. -/
namespace RS
open PySem L2 TL

/-! ### what may be written -/
mutual
def okP (names done : List Str) : Nat → Pt → Prop
  | _, .letP x s => x ∈ names ∧ okS names s
  | _, .say s => okS names s
  | _, .ask x => x ∈ names
  | _, .doP x => x ∈ done
  | _, .stop => True
  | d, .whl s _ b => okS names s ∧ d < 6 ∧ okB names done (d + 1) b
  | d, .rep n b => n ≤ 6 ∧ d < 6 ∧ okB names done (d + 1) b
  | d, .ifP s _ b c => okS names s ∧ d < 6 ∧ okB names done (d + 1) b ∧ okB names done (d + 1) c
def okB (names done : List Str) : Nat → List Pt → Prop
  | _, [] => True
  | d, p :: r => okP names done d p ∧ okB names done d r
end
mutual
def szP : Pt → Nat
  | .whl _ _ b => 1 + szB b
  | .rep _ b => 1 + szB b
  | .ifP _ _ b c => 1 + (szB b + szB c)
  | _ => 1
def szB : List Pt → Nat
  | [] => 0
  | p :: r => szP p + szB r
end
/-! ### the reader on good lines -/
def runO : Rd → List (List Str) → Option Rd
  | st, [] => some st
  | st, ws :: r => match takeR st ws with
    | .ok st' => runO st' r
    | .error _ => none
theorem runO_append : ∀ (a b : List (List Str)) (st : Rd), runO st (a ++ b) = (runO st a).bind fun st' => runO st' b
  | [], _, _ => rfl
  | ws :: a, b, st => by
    show (match takeR st ws with | .ok st' => runO st' (a ++ b) | .error _ => none) = (match takeR st ws with | .ok st' => runO st' a | .error _ => none).bind fun st' => runO st' b
    cases takeR st ws with
    | ok st' => exact runO_append a b st'
    | error e => rfl
theorem runO_two {a b : List (List Str)} {st st1 st2 : Rd} (h1 : runO st a = some st1) (h2 : runO st1 b = some st2) : runO st (a ++ b) = some st2 := by
  rw [runO_append, h1]
  exact h2
theorem runO_one {ws : List Str} {st st1 : Rd} (h : takeR st ws = .ok st1) : runO st [ws] = some st1 := by
  show (match takeR st ws with | .ok st' => runO st' [] | .error _ => none) = _
  rw [h]
  rfl
theorem runL_of : ∀ (ls : List (List Str)) (st st' : Rd), runO st (ls.filter fun ws => !ws.isEmpty) = some st' → ∀ k, runL k st ls = .ok st'
  | [], st, st', h, k => by
    have e : st = st' := Option.some.inj h
    rw [runL, e]
  | [] :: r, st, st', h, k => by
    rw [runL, if_pos rfl]
    exact runL_of r st st' h (k + 1)
  | (w :: ws) :: r, st, st', h, k => by
    rw [runL, if_neg (by simp)]
    have h2 : (match takeR st (w :: ws) with | .ok st1 => runO st1 (r.filter fun ws => !ws.isEmpty) | .error _ => none) = some st' := h
    cases e : takeR st (w :: ws) with
    | error e' =>
      rw [e] at h2
      cases h2
    | ok st1 =>
      rw [e] at h2
      exact runL_of r st1 st' h2 (k + 1)

theorem kept_names : ("names" : Str) ∈ kept := by decide +kernel
theorem kept_to : ("to" : Str) ∈ kept := by decide +kernel
theorem kept_end : ("end" : Str) ∈ kept := by decide +kernel
theorem kept_let : ("let" : Str) ∈ kept := by decide +kernel
theorem kept_say : ("say" : Str) ∈ kept := by decide +kernel
theorem kept_ask : ("ask" : Str) ∈ kept := by decide +kernel
theorem kept_if : ("if" : Str) ∈ kept := by decide +kernel
theorem kept_else : ("else" : Str) ∈ kept := by decide +kernel
theorem kept_while : ("while" : Str) ∈ kept := by decide +kernel
theorem kept_repeat : ("repeat" : Str) ∈ kept := by decide +kernel
theorem kept_do : ("do" : Str) ∈ kept := by decide +kernel
theorem kept_stop : ("stop" : Str) ∈ kept := by decide +kernel

/-- a part's line reaches take_part -/
theorem take_is_part {st : Rd} {first : Str} {r : List Str} (hk : first ∈ kept) (hn : st.names.isNone = false) (h1 : first ≠ "names") (h2 : first ≠ "to") (h3 : first ≠ "else") (h4 : first ≠ "end") : takeR st (first :: r) = takePart st first (first :: r) := by
  rw [takeR, if_neg, if_neg h1, if_neg h2, if_neg]
  · rintro (h | h)
    · exact h3 h
    · exact h4 h
  · rw [hn, decide_eq_false h1]
    rintro (h | h)
    · exact h hk
    · exact h rfl
theorem hasTo_cons {o p : Op} {l : List Op} (h : o.isTo = false) : hasTo (o :: p :: l) = hasTo (p :: l) := by
  unfold hasTo
  rw [List.reverse_cons]
  cases e : (p :: l).reverse with
  | nil => simp at e
  | cons a q =>
    cases q with
    | nil =>
      show o.isTo = false
      exact h
    | cons b q => rfl
theorem hasTo_same {o o' : Op} {l : List Op} (h : o.isTo = o'.isTo) : hasTo (o :: l) = hasTo (o' :: l) := by
  unfold hasTo
  rw [List.reverse_cons, List.reverse_cons]
  cases e : l.reverse with
  | nil => rfl
  | cons a q =>
    cases q with
    | nil => exact h
    | cons b q => rfl
theorem hasTo_len {l : List Op} (h : hasTo l = true) : 2 ≤ l.length := by
  unfold hasTo at h
  have e : l.reverse.length = l.length := List.length_reverse
  cases q : l.reverse with
  | nil => rw [q] at h; cases h
  | cons a r =>
    rw [q] at h e
    cases r with
    | nil => cases h
    | cons b r =>
      simp only [List.length_cons] at e
      omega
theorem depth_push {o p : Op} {l : List Op} (h : o.isTo = false) : depthR (o :: p :: l) = depthR (p :: l) + 1 := by
  unfold depthR
  rw [hasTo_cons h]
  by_cases q : hasTo (p :: l) = true
  · have := hasTo_len q
    rw [if_pos q]
    simp only [List.length_cons] at this ⊢
    omega
  · rw [if_neg q]
    simp only [List.length_cons]
    omega
theorem depth_same {o o' : Op} {l : List Op} (h : o.isTo = o'.isTo) : depthR (o :: l) = depthR (o' :: l) := by
  unfold depthR
  rw [hasTo_same h]
  rfl
/-- a block's parts put behind the top's -/
def addPs (b : List Pt) : List Op → List Op
  | [] => []
  | o :: r => { o with cu := o.cu ++ b } :: r
theorem addPs_nil (l : List Op) : addPs [] l = l := by
  cases l with
  | nil => rfl
  | cons o r =>
    show ({ o with cu := o.cu ++ [] } : Op) :: r = o :: r
    rw [List.append_nil]
theorem addPs_cons (p : Pt) (b : List Pt) (l : List Op) : addPs b (addP p l) = addPs (p :: b) l := by
  cases l with
  | nil => rfl
  | cons o r =>
    show ({ o with cu := (o.cu ++ [p]) ++ b } : Op) :: r = { o with cu := o.cu ++ (p :: b) } :: r
    rw [List.append_assoc]
    rfl
theorem addP_len (p : Pt) (l : List Op) : (addP p l).length = l.length := by cases l <;> rfl
theorem addP_depth (p : Pt) (l : List Op) : depthR (addP p l) = depthR l := by
  cases l with
  | nil => rfl
  | cons o r => exact depth_same (o := { o with cu := o.cu ++ [p] }) (o' := o) rfl
def resP (st : Rd) (p : Pt) : Rd := { st with tw := addP p st.tw, parts := st.parts + szP p, begun := st.begun || decide (st.tw.length = 1) }
def resB (st : Rd) (b : List Pt) : Rd := { st with tw := addPs b st.tw, parts := st.parts + szB b, begun := if b.isEmpty = true then st.begun else st.begun || decide (st.tw.length = 1) }
/-- the reader stands in a block of depth d -/
structure At (names done : List Str) (d : Nat) (st : Rd) : Prop where
  ns : st.names = some names
  kn : known st = done
  dp : depthR st.tw = d
  ne : st.tw ≠ []
theorem At.res {names done : List Str} {d : Nat} {st : Rd} {p : Pt} (h : At names done d st) : At names done d (resP st p) := by
  refine ⟨h.ns, h.kn, ?_, ?_⟩
  · show depthR (addP p st.tw) = d
    rw [addP_depth]
    exact h.dp
  · show addP p st.tw ≠ []
    intro e
    have := congrArg List.length e
    rw [addP_len] at this
    exact h.ne (List.eq_nil_of_length_eq_zero this)
theorem resB_cons (st : Rd) (p : Pt) (b : List Pt) : resB (resP st p) b = resB st (p :: b) := by
  have h1 : addPs b (addP p st.tw) = addPs (p :: b) st.tw := addPs_cons p b st.tw
  have h2 : st.parts + szP p + szB b = st.parts + szB (p :: b) := by
    rw [szB]
    omega
  have h3 : (if b.isEmpty = true then (st.begun || decide (st.tw.length = 1)) else ((st.begun || decide (st.tw.length = 1)) || decide ((addP p st.tw).length = 1))) = (st.begun || decide (st.tw.length = 1)) := by
    rw [addP_len]
    split
    · rfl
    · cases st.begun <;> cases decide (st.tw.length = 1) <;> rfl
  show ({ st with tw := addPs b (addP p st.tw), parts := st.parts + szP p + szB b, begun := if b.isEmpty = true then (st.begun || decide (st.tw.length = 1)) else ((st.begun || decide (st.tw.length = 1)) || decide ((addP p st.tw).length = 1)) } : Rd)
    = { st with tw := addPs (p :: b) st.tw, parts := st.parts + szB (p :: b), begun := (st.begun || decide (st.tw.length = 1)) }
  rw [h1, h2, h3]
theorem resB_nil (st : Rd) : resB st [] = st := by
  show ({ st with tw := addPs [] st.tw, parts := st.parts + 0, begun := st.begun } : Rd) = st
  rw [addPs_nil]
  rfl
theorem beg_in (b : List Pt) (c : Bool) (n : Nat) (h : n ≠ 0) : (if b.isEmpty = true then c else (c || decide (n + 1 = 1))) = c := by
  split
  · rfl
  · rw [decide_eq_false (by omega), Bool.or_false]
/-- the small parts -/
theorem take_small {names done : List Str} {d : Nat} {st : Rd} {p : Pt} {first : Str} {r : List Str} (h : At names done d st) (hsz : st.parts + 1 ≤ 60) (hz : szP p = 1) (hk : first ∈ kept) (h1 : first ≠ "names") (h2 : first ≠ "to") (h3 : first ≠ "else") (h4 : first ≠ "end")
    (h5 : first ≠ "if") (h6 : first ≠ "while") (h7 : first ≠ "repeat") (hs : smallPart names done first (first :: r) = .ok p) : takeR st (first :: r) = .ok (resP st p) := by
  rw [take_is_part hk (by rw [h.ns]; rfl) h1 h2 h3 h4]
  unfold takePart
  have nb : isBlk first = false := by
    unfold isBlk
    rw [decide_eq_false h5, decide_eq_false h6, decide_eq_false h7]
    rfl
  rw [if_neg (by rintro (q | ⟨q, _⟩); omega; rw [nb] at q; cases q)]
  dsimp only
  rw [if_neg (by rintro (q | q); exact h5 q; exact h6 q), if_neg h7, h.ns, h.kn]
  have e : smallPart ((some names).getD []) done first (first :: r) = .ok p := hs
  rw [e]
  show Except.ok _ = Except.ok (resP st p)
  unfold resP
  rw [hz, h.ns]
theorem sumToEnd_ok {names : List Str} {s : Sm} {pre : List Str} {k : Nat} (hs : okS names s) (hk : pre.length = k) : sumToEnd names (pre ++ sumW s false) k = .ok s := by
  unfold sumToEnd
  have e : (pre ++ sumW s false).drop k = sumW s false ++ [] := by
    rw [← hk, List.drop_left, List.append_nil]
  rw [e, whole_ok (rest := []) hs True.intro]
  rfl
theorem sg_eqS (z : Bool) : sgOf (eqS z) = none := by cases z <;> decide +kernel
theorem ts_eqS (z : Bool) : tsOf (eqS z) = some z := by cases z <;> decide +kernel
theorem testOf_ok {names : List Str} {s : Sm} {z : Bool} {w : Str} (hs : okS names s) : testOf names (w :: tsW s z) = .ok (s, z) := by
  unfold testOf
  have e : (w :: tsW s z).drop 1 = sumW s false ++ ([eqS z, "0"] : List Str) := rfl
  rw [e, whole_ok (rest := ([eqS z, "0"] : List Str)) hs (sg_eqS z)]
  dsimp only
  rw [ts_eqS]
  rfl
/-- the line of an if or a while -/
theorem take_test {names done : List Str} {d : Nat} {st : Rd} {s : Sm} {z : Bool} {first : Str} (h : At names done d st) (hs : okS names s) (hd : d < 6) (hsz : st.parts + 1 ≤ 60) (hf : first = "if" ∨ first = "while") :
    takeR st (first :: tsW s z) = .ok { st with tw := ⟨if first = "if" then .iff s z else .whl s z, none, []⟩ :: st.tw, parts := st.parts + 1, begun := st.begun || decide (st.tw.length = 1) } := by
  have hk : first ∈ kept ∧ first ≠ "names" ∧ first ≠ "to" ∧ first ≠ "else" ∧ first ≠ "end" := by
    rcases hf with rfl | rfl <;> decide +kernel
  rw [take_is_part hk.1 (by rw [h.ns]; rfl) hk.2.1 hk.2.2.1 hk.2.2.2.1 hk.2.2.2.2]
  unfold takePart
  rw [if_neg (by rintro (q | ⟨_, q⟩); omega; rw [h.dp] at q; omega)]
  dsimp only
  rw [if_pos hf, h.ns]
  have e : testOf ((some names).getD []) (first :: tsW s z) = .ok (s, z) := testOf_ok hs
  rw [e]
theorem numS_word (n : Nat) : numVal (word1 (["repeat", numS n] : List Str)) = n := numVal_num n
theorem take_rep {names done : List Str} {d : Nat} {st : Rd} {n : Nat} (h : At names done d st) (hn : n ≤ 6) (hd : d < 6) (hsz : st.parts + 1 ≤ 60) :
    takeR st (["repeat", numS n] : List Str) = .ok { st with tw := ⟨.rep n, none, []⟩ :: st.tw, parts := st.parts + 1, begun := st.begun || decide (st.tw.length = 1) } := by
  rw [take_is_part kept_repeat (by rw [h.ns]; rfl) (by decide +kernel) (by decide +kernel) (by decide +kernel) (by decide +kernel)]
  unfold takePart
  rw [if_neg (by rintro (q | ⟨_, q⟩); omega; rw [h.dp] at q; omega)]
  dsimp only
  rw [if_neg (by decide +kernel), if_pos rfl, numS_word]
  have hb : badRep (["repeat", numS n] : List Str) = false := by
    show (numIn (numS n) 0 6).isNone = false
    rw [numIn_num (by omega) (by omega) (by omega) (by omega)]
    rfl
  rw [hb]
  rfl
theorem take_end {st : Rd} (hn : st.names.isNone = false) (h : 2 ≤ st.tw.length) : takeR st (["end"] : List Str) = .ok (closeR st) := by
  rw [takeR, if_neg, if_neg (by decide +kernel), if_neg (by decide +kernel), if_pos (Or.inr rfl)]
  · unfold takeTurn
    rw [if_neg]
    · have e : ¬ (("end" : Str) = "else") := by decide +kernel
      rw [if_neg e]
      rfl
    · rintro (⟨q, _⟩ | q)
      · exact absurd q (by decide +kernel)
      · omega
  · rw [hn]
    rintro (q | q)
    · exact q kept_end
    · exact q (by decide +kernel)
theorem take_else {st : Rd} (hn : st.names.isNone = false) (h : 2 ≤ st.tw.length) (he : noElse st.tw = false) : takeR st (["else"] : List Str) = .ok (elseR st) := by
  rw [takeR, if_neg, if_neg (by decide +kernel), if_neg (by decide +kernel), if_pos (Or.inl rfl)]
  · unfold takeTurn
    rw [if_neg]
    · rw [if_pos rfl]
      rfl
    · rintro (⟨_, q⟩ | q)
      · rw [he] at q
        cases q
      · omega
  · rw [hn]
    rintro (q | q)
    · exact q kept_else
    · exact q (by decide +kernel)
theorem linesP_if (s : Sm) (z : Bool) (b c : List Pt) : linesP (.ifP s z b c) = [(["if"] : List Str) ++ tsW s z] ++ linesB b ++ (if c.isEmpty = true then [] else [(["else"] : List Str)] ++ linesB c) ++ [(["end"] : List Str)] := by
  cases c with
  | nil => rw [linesP]; rfl
  | cons p c =>
    rw [linesP]
    have e : linesB (p :: c) = linesP p ++ linesB c := by rw [linesB]
    rw [← e]
    rfl
mutual
theorem read_part {names done : List Str} : ∀ (p : Pt) (d : Nat) (st : Rd), okP names done d p → At names done d st → st.parts + szP p ≤ 60 → (∀ x ∈ names, isName x = true) → runO st (linesP p) = some (resP st p)
  | .letP x s, d, st, h, ha, hz, hn => by
    rw [linesP]
    rw [okP] at h
    refine runO_one (take_small ha hz rfl kept_let (by decide +kernel) (by decide +kernel) (by decide +kernel) (by decide +kernel) (by decide +kernel) (by decide +kernel) (by decide +kernel) ?_)
    unfold smallPart
    rw [if_neg (by decide +kernel), if_neg (by decide +kernel), if_neg (by decide +kernel), if_neg (by decide +kernel), if_neg, if_neg]
    · have e := sumToEnd_ok (pre := (["let", x, "="] : List Str)) (k := 3) h.2 rfl
      have e2 : sumToEnd names (("let" : Str) :: ([x, ("=" : Str)].append (sumW s false))) 3 = .ok s := e
      rw [e2]
      rfl
    · rintro (q | q)
      · simp at q
        omega
      · exact q rfl
    · rintro (q | q)
      · simp at q
        omega
      · exact q h.1
  | .say s, d, st, h, ha, hz, hn => by
    rw [linesP]
    rw [okP] at h
    refine runO_one (take_small ha hz rfl kept_say (by decide +kernel) (by decide +kernel) (by decide +kernel) (by decide +kernel) (by decide +kernel) (by decide +kernel) (by decide +kernel) ?_)
    unfold smallPart
    rw [if_neg (by decide +kernel), if_neg (by decide +kernel), if_neg (by decide +kernel), if_pos rfl]
    have e := sumToEnd_ok (pre := (["say"] : List Str)) (k := 1) h rfl
    have e2 : sumToEnd names (("say" : Str) :: (([] : List Str).append (sumW s false))) 1 = .ok s := e
    rw [e2]
  | .ask x, d, st, h, ha, hz, hn => by
    rw [linesP]
    rw [okP] at h
    refine runO_one (take_small ha hz rfl kept_ask (by decide +kernel) (by decide +kernel) (by decide +kernel) (by decide +kernel) (by decide +kernel) (by decide +kernel) (by decide +kernel) ?_)
    unfold smallPart
    rw [if_neg (by decide +kernel), if_pos rfl, if_neg]
    · rfl
    · show ¬ (!decide (x ∈ names)) = true
      rw [decide_eq_true h]
      decide
  | .doP x, d, st, h, ha, hz, hn => by
    rw [linesP]
    rw [okP] at h
    refine runO_one (take_small ha hz rfl kept_do (by decide +kernel) (by decide +kernel) (by decide +kernel) (by decide +kernel) (by decide +kernel) (by decide +kernel) (by decide +kernel) ?_)
    unfold smallPart
    rw [if_neg (by decide +kernel), if_neg (by decide +kernel), if_pos rfl, if_neg]
    · rfl
    · show ¬ (!decide (x ∈ done)) = true
      rw [decide_eq_true h]
      decide
  | .stop, d, st, h, ha, hz, hn => by
    rw [linesP]
    refine runO_one (take_small ha hz rfl kept_stop (by decide +kernel) (by decide +kernel) (by decide +kernel) (by decide +kernel) (by decide +kernel) (by decide +kernel) (by decide +kernel) ?_)
    unfold smallPart
    rw [if_pos rfl]
    rfl
  | .whl s z b, d, st, h, ha, hz, hn => by
    rw [linesP]
    rw [okP] at h
    rw [szP] at hz
    have hf : ¬ (("while" : Str) = "if") := by decide +kernel
    have t1 := take_test (z := z) ha h.1 h.2.1 (by omega) (first := "while") (.inr rfl)
    rw [if_neg hf] at t1
    cases e : st.tw with
    | nil => exact absurd e ha.ne
    | cons o r =>
      have a1 : At names done (d + 1) { st with tw := ⟨.whl s z, none, []⟩ :: st.tw, parts := st.parts + 1, begun := st.begun || decide (st.tw.length = 1) } := by
        refine ⟨ha.ns, ha.kn, ?_, by simp⟩
        show depthR (⟨.whl s z, none, []⟩ :: st.tw) = d + 1
        rw [e, depth_push rfl, ← e, ha.dp]
      have t2 := read_block b (d + 1) _ h.2.2 a1 (by show st.parts + 1 + szB b ≤ 60; omega) hn
      refine runO_two (runO_two (runO_one t1) t2) (runO_one ?_)
      rw [take_end (by show st.names.isNone = false; rw [ha.ns]; rfl) (by show 2 ≤ (({ cu := [] ++ b, kd := .whl s z, dn := none } : Op) :: st.tw).length; rw [e]; simp)]
      show Except.ok ({ st with tw := addP (.whl s z ([] ++ b)) st.tw, parts := st.parts + 1 + szB b, begun := if b.isEmpty = true then (st.begun || decide (st.tw.length = 1)) else ((st.begun || decide (st.tw.length = 1)) || decide ((st.tw.length + 1) = 1)) } : Rd) = Except.ok (resP st (.whl s z b))
      have hb : (if b.isEmpty = true then (st.begun || decide (st.tw.length = 1)) else ((st.begun || decide (st.tw.length = 1)) || decide ((st.tw.length + 1) = 1))) = (st.begun || decide (st.tw.length = 1)) := beg_in b _ _ (by rw [e]; simp)
      rw [hb, List.nil_append]
      unfold resP
      rw [szP, Nat.add_assoc]
  | .rep n b, d, st, h, ha, hz, hn => by
    rw [linesP]
    rw [okP] at h
    rw [szP] at hz
    have t1 := take_rep ha h.1 h.2.1 (by omega)
    cases e : st.tw with
    | nil => exact absurd e ha.ne
    | cons o r =>
      have a1 : At names done (d + 1) { st with tw := ⟨.rep n, none, []⟩ :: st.tw, parts := st.parts + 1, begun := st.begun || decide (st.tw.length = 1) } := by
        refine ⟨ha.ns, ha.kn, ?_, by simp⟩
        show depthR (⟨.rep n, none, []⟩ :: st.tw) = d + 1
        rw [e, depth_push rfl, ← e, ha.dp]
      have t2 := read_block b (d + 1) _ h.2.2 a1 (by show st.parts + 1 + szB b ≤ 60; omega) hn
      refine runO_two (runO_two (runO_one t1) t2) (runO_one ?_)
      rw [take_end (by show st.names.isNone = false; rw [ha.ns]; rfl) (by show 2 ≤ (({ cu := [] ++ b, kd := .rep n, dn := none } : Op) :: st.tw).length; rw [e]; simp)]
      show Except.ok ({ st with tw := addP (.rep n ([] ++ b)) st.tw, parts := st.parts + 1 + szB b, begun := if b.isEmpty = true then (st.begun || decide (st.tw.length = 1)) else ((st.begun || decide (st.tw.length = 1)) || decide ((st.tw.length + 1) = 1)) } : Rd) = Except.ok (resP st (.rep n b))
      have hb : (if b.isEmpty = true then (st.begun || decide (st.tw.length = 1)) else ((st.begun || decide (st.tw.length = 1)) || decide ((st.tw.length + 1) = 1))) = (st.begun || decide (st.tw.length = 1)) := beg_in b _ _ (by rw [e]; simp)
      rw [hb, List.nil_append]
      unfold resP
      rw [szP, Nat.add_assoc]
  | .ifP s z b c, d, st, h, ha, hz, hn => by
    rw [linesP_if]
    rw [okP] at h
    rw [szP] at hz
    have t1 := take_test (z := z) ha h.1 h.2.1 (by omega) (first := "if") (.inl rfl)
    rw [if_pos rfl] at t1
    cases e : st.tw with
    | nil => exact absurd e ha.ne
    | cons o r =>
      have a1 : At names done (d + 1) { st with tw := ⟨.iff s z, none, []⟩ :: st.tw, parts := st.parts + 1, begun := st.begun || decide (st.tw.length = 1) } := by
        refine ⟨ha.ns, ha.kn, ?_, by simp⟩
        show depthR (⟨.iff s z, none, []⟩ :: st.tw) = d + 1
        rw [e, depth_push rfl, ← e, ha.dp]
      have t2 := read_block b (d + 1) _ h.2.2.1 a1 (by show st.parts + 1 + szB b ≤ 60; omega) hn
      have hb : (if b.isEmpty = true then (st.begun || decide (st.tw.length = 1)) else ((st.begun || decide (st.tw.length = 1)) || decide ((st.tw.length + 1) = 1))) = (st.begun || decide (st.tw.length = 1)) := beg_in b _ _ (by rw [e]; simp)
      have t2' : runO { st with tw := ⟨.iff s z, none, []⟩ :: st.tw, parts := st.parts + 1, begun := st.begun || decide (st.tw.length = 1) } (linesB b) = some { st with tw := ⟨.iff s z, none, b⟩ :: st.tw, parts := st.parts + 1 + szB b, begun := st.begun || decide (st.tw.length = 1) } := by
        rw [t2]
        show some ({ st with tw := ⟨.iff s z, none, [] ++ b⟩ :: st.tw, parts := st.parts + 1 + szB b, begun := if b.isEmpty = true then (st.begun || decide (st.tw.length = 1)) else ((st.begun || decide (st.tw.length = 1)) || decide ((st.tw.length + 1) = 1)) } : Rd) = _
        rw [hb, List.nil_append]
      by_cases hc : c.isEmpty = true
      · rw [if_pos hc, List.append_nil]
        refine runO_two (runO_two (runO_one t1) t2') (runO_one ?_)
        rw [take_end (by show st.names.isNone = false; rw [ha.ns]; rfl) (by show 2 ≤ (({ cu := b, kd := .iff s z, dn := none } : Op) :: st.tw).length; rw [e]; simp)]
        have hc' : c = [] := by
          cases c with
          | nil => rfl
          | cons _ _ => cases hc
        subst hc'
        show Except.ok ({ st with tw := addP (.ifP s z b []) st.tw, parts := st.parts + 1 + szB b, begun := (st.begun || decide (st.tw.length = 1)) } : Rd) = Except.ok (resP st (.ifP s z b []))
        unfold resP
        have hz : szP (.ifP s z b []) = 1 + szB b := by
          rw [szP, szB]
          omega
        rw [hz, Nat.add_assoc]
      · rw [if_neg hc]
        have t3 : takeR { st with tw := ⟨.iff s z, none, b⟩ :: st.tw, parts := st.parts + 1 + szB b, begun := st.begun || decide (st.tw.length = 1) } (["else"] : List Str) = .ok { st with tw := ⟨.iff s z, some b, []⟩ :: st.tw, parts := st.parts + 1 + szB b, begun := st.begun || decide (st.tw.length = 1) } :=
          take_else (by show st.names.isNone = false; rw [ha.ns]; rfl) (by show 2 ≤ (({ cu := b, kd := .iff s z, dn := none } : Op) :: st.tw).length; rw [e]; simp) rfl
        have a2 : At names done (d + 1) { st with tw := ⟨.iff s z, some b, []⟩ :: st.tw, parts := st.parts + 1 + szB b, begun := st.begun || decide (st.tw.length = 1) } := by
          refine ⟨ha.ns, ha.kn, ?_, by simp⟩
          show depthR (⟨.iff s z, some b, []⟩ :: st.tw) = d + 1
          rw [e, depth_push rfl, ← e, ha.dp]
        have t4 := read_block c (d + 1) _ h.2.2.2 a2 (by show st.parts + 1 + szB b + szB c ≤ 60; omega) hn
        refine runO_two (runO_two (runO_two (runO_one t1) t2') (runO_two (runO_one t3) t4)) (runO_one ?_)
        rw [take_end (by show st.names.isNone = false; rw [ha.ns]; rfl) (by show 2 ≤ (({ cu := [] ++ c, kd := .iff s z, dn := some b } : Op) :: st.tw).length; rw [e]; simp)]
        show Except.ok ({ st with tw := addP (.ifP s z b ([] ++ c)) st.tw, parts := st.parts + 1 + szB b + szB c, begun := if c.isEmpty = true then (st.begun || decide (st.tw.length = 1)) else ((st.begun || decide (st.tw.length = 1)) || decide ((st.tw.length + 1) = 1)) } : Rd) = Except.ok (resP st (.ifP s z b c))
        rw [beg_in c _ _ (by rw [e]; simp), List.nil_append]
        unfold resP
        have hz : szP (.ifP s z b c) = 1 + (szB b + szB c) := by rw [szP]
        have hq : st.parts + 1 + szB b + szB c = st.parts + (1 + (szB b + szB c)) := by omega
        rw [hz, hq]
theorem read_block {names done : List Str} : ∀ (b : List Pt) (d : Nat) (st : Rd), okB names done d b → At names done d st → st.parts + szB b ≤ 60 → (∀ x ∈ names, isName x = true) → runO st (linesB b) = some (resB st b)
  | [], d, st, h, ha, hz, hn => by
    rw [linesB, resB_nil]
    rfl
  | p :: r, d, st, h, ha, hz, hn => by
    rw [okB] at h
    rw [szB] at hz
    rw [linesB]
    have t1 := read_part p d st h.1 ha (by omega) hn
    have t2 := read_block r d (resP st p) h.2 ha.res (by show st.parts + szP p + szB r ≤ 60; omega) hn
    rw [resB_cons] at t2
    exact runO_two t1 t2
end
end RS
end
section
set_option Elab.async false
set_option linter.all false
set_option maxRecDepth 100000
set_option maxHeartbeats 4000000
/-! M4: whole programs and their texts. -/
namespace RS
open PySem L2 TL

/-! ### programs -/
def okProcs (names done : List Str) : List (Str × List Pt) → Prop
  | [] => True
  | q :: r => isName q.1 = true ∧ q.1 ∉ done ∧ okB names done 1 q.2 ∧ okProcs names (done ++ [q.1]) r
def szProcs : List (Str × List Pt) → Nat
  | [] => 0
  | q :: r => szB q.2 + szProcs r
structure okPg (p : Pg) : Prop where
  n1 : 1 ≤ p.names.length
  n5 : p.names.length ≤ 5
  nm : ∀ x ∈ p.names, isName x = true
  nd : p.names.Nodup
  pl : p.procs.length ≤ 4
  pr : okProcs p.names [] p.procs
  bl : okB p.names (p.procs.map (·.1)) 1 p.block
  sz : szProcs p.procs + szB p.block ≤ 60
theorem check_ok : ∀ (r seen : List Str), seen.length + r.length ≤ 5 → (∀ x ∈ r, isName x = true) → (seen ++ r).Nodup → checkNames seen r = none
  | [], _, _, _, _ => rfl
  | w :: r, seen, hl, hn, hd => by
    simp only [List.length_cons] at hl
    rw [checkNames, if_neg]
    · refine check_ok r (seen ++ [w]) ?_ (fun x hx => hn x (List.mem_cons_of_mem _ hx)) ?_
      · simp only [List.length_append, List.length_cons, List.length_nil]
        omega
      · rw [List.append_assoc]
        exact hd
    · rintro (h | h | h)
      · omega
      · rw [hn w List.mem_cons_self] at h
        cases h
      · have q := (List.nodup_append.mp hd).2.2
        exact q w h w List.mem_cons_self rfl
theorem take_names_ok {names : List Str} (h1 : 1 ≤ names.length) (h5 : names.length ≤ 5) (hn : ∀ x ∈ names, isName x = true) (hd : names.Nodup) : takeR rd0 ((["names"] : List Str) ++ names) = .ok { rd0 with names := some names } := by
  show takeR rd0 (("names" : Str) :: names) = _
  rw [takeR, if_neg, if_pos rfl]
  · unfold takeNames
    show (match checkNames [] names with | some e => Except.error e | none => if (("names" : Str) :: names).length = 1 then Except.error 2 else Except.ok { rd0 with names := some names }) = _
    rw [check_ok names [] (by simpa using h5) hn (by simpa using hd)]
    dsimp only
    rw [if_neg]
    simp only [List.length_cons]
    omega
  · rintro (q | q)
    · exact q kept_names
    · exact q rfl
theorem read_procs {names : List Str} (hn : ∀ x ∈ names, isName x = true) : ∀ (ps acc : List (Str × List Pt)) (k : Nat), okProcs names (acc.map (·.1)) ps → acc.length + ps.length ≤ 4 → k + szProcs ps ≤ 60 →
    runO ⟨some names, acc, [⟨.prog, none, []⟩], k, false⟩ (ps.map procL).flatten = some ⟨some names, acc ++ ps, [⟨.prog, none, []⟩], k + szProcs ps, false⟩
  | [], acc, k, _, _, _ => by
    rw [List.append_nil]
    rfl
  | q :: r, acc, k, h, hl, hz => by
    obtain ⟨x, b⟩ := q
    rw [okProcs] at h
    obtain ⟨h1, h2, h3, h4⟩ := h
    rw [szProcs] at hz
    dsimp only at h1 h2 h3 h4 hz
    simp only [List.length_cons] at hl
    have t1 : takeR ⟨some names, acc, [⟨.prog, none, []⟩], k, false⟩ (["to", x] : List Str) = .ok ⟨some names, acc, [⟨.to x, none, []⟩, ⟨.prog, none, []⟩], k, false⟩ := by
      rw [takeR, if_neg, if_neg (by decide +kernel), if_pos rfl]
      · unfold takeTo
        rw [if_neg, if_neg]
        · rfl
        · show ¬ (!isName x || decide (x ∈ acc.map (·.1))) = true
          rw [h1, decide_eq_false h2]
          decide
        · rintro (q | q | q)
          · cases q
          · exact absurd (show 1 < 1 from q) (by decide)
          · dsimp only at q
            omega
      · rintro (q | q)
        · exact q kept_to
        · exact q (show decide (("to" : Str) = "names") = false by decide +kernel)
    have a1 : At names (acc.map (·.1)) 1 ⟨some names, acc, [⟨.to x, none, []⟩, ⟨.prog, none, []⟩], k, false⟩ := ⟨rfl, rfl, rfl, by simp⟩
    have t2 := read_block b 1 _ h3 a1 (by show k + szB b ≤ 60; omega) hn
    have e2 : resB ⟨some names, acc, [⟨.to x, none, []⟩, ⟨.prog, none, []⟩], k, false⟩ b = ⟨some names, acc, [⟨.to x, none, b⟩, ⟨.prog, none, []⟩], k + szB b, false⟩ := by
      show (⟨some names, acc, [⟨.to x, none, [] ++ b⟩, ⟨.prog, none, []⟩], k + szB b, if b.isEmpty = true then false else (false || decide ((1 + 1) = 1))⟩ : Rd) = _
      rw [beg_in b false 1 (by decide), List.nil_append]
    rw [e2] at t2
    have t3 : takeR ⟨some names, acc, [⟨.to x, none, b⟩, ⟨.prog, none, []⟩], k + szB b, false⟩ (["end"] : List Str) = .ok ⟨some names, acc ++ [(x, b)], [⟨.prog, none, []⟩], k + szB b, false⟩ :=
      take_end rfl (by show 2 ≤ 2; decide)
    have t4 := read_procs hn r (acc ++ [(x, b)]) (k + szB b) (by rw [List.map_append]; exact h4) (by simp only [List.length_append, List.length_cons, List.length_nil]; omega) (by omega)
    have e4 : acc ++ [(x, b)] ++ r = acc ++ (x, b) :: r := by rw [List.append_assoc]; rfl
    have e5 : k + szB b + szProcs r = k + szProcs ((x, b) :: r) := by
      rw [szProcs]
      dsimp only
      omega
    rw [e4, e5] at t4
    rw [List.map_cons, List.flatten_cons]
    refine runO_two ?_ t4
    exact runO_two (runO_two (runO_one t1) t2) (runO_one t3)
theorem read_prog {p : Pg} (h : okPg p) : ∃ st, runO rd0 (progL p) = some st ∧ ∀ n, finish n st = .ok p := by
  have t1 := take_names_ok h.n1 h.n5 h.nm h.nd
  have hz := h.sz
  have t2 := read_procs h.nm p.procs [] 0 h.pr (by simpa using h.pl) (by omega)
  have a1 : At p.names (p.procs.map (·.1)) 1 ⟨some p.names, [] ++ p.procs, [⟨.prog, none, []⟩], 0 + szProcs p.procs, false⟩ := ⟨rfl, rfl, rfl, by simp⟩
  have t3 := read_block p.block 1 _ h.bl a1 (by show 0 + szProcs p.procs + szB p.block ≤ 60; omega) h.nm
  refine ⟨_, runO_two (runO_two (runO_one t1) t2) t3, fun n => ?_⟩
  show (if 1 < 1 then Except.error (n + 1, 1) else Except.ok (⟨p.names, [] ++ p.procs, [] ++ p.block⟩ : Pg)) = Except.ok p
  rw [if_neg (by decide), List.nil_append, List.nil_append]

/-! ### texts -/
theorem cutA_hit {s : Nat} : ∀ {p acc r : List Nat}, s ∉ p → cutA s acc (p ++ s :: r) = (acc ++ p) :: cutA s [] r
  | [], acc, r, _ => by
    rw [List.nil_append, cutA, if_pos rfl, List.append_nil]
  | c :: p, acc, r, h => by
    have hc : c ≠ s := fun e => h (by rw [e]; exact List.mem_cons_self)
    rw [List.cons_append, cutA, if_neg hc, cutA_hit (fun q => h (List.mem_cons_of_mem _ q)), List.append_assoc]
    rfl
theorem cutA_last {s : Nat} : ∀ {p acc : List Nat}, s ∉ p → cutA s acc p = [acc ++ p]
  | [], acc, _ => by rw [cutA, List.append_nil]
  | c :: p, acc, h => by
    have hc : c ≠ s := fun e => h (by rw [e]; exact List.mem_cons_self)
    rw [cutA, if_neg hc, cutA_last (fun q => h (List.mem_cons_of_mem _ q)), List.append_assoc]
    rfl
theorem cut_hit {s : Nat} {p r : List Nat} (h : s ∉ p) : cut s (p ++ s :: r) = p :: cut s r := cutA_hit (acc := []) h
theorem cut_last {s : Nat} {p : List Nat} (h : s ∉ p) : cut s p = [p] := cutA_last (acc := []) h
theorem cutA_ne {s : Nat} : ∀ (l acc : List Nat), ∃ a r, cutA s acc l = (acc ++ a) :: r
  | [], acc => ⟨[], [], by rw [cutA, List.append_nil]⟩
  | c :: l, acc => by
    by_cases h : c = s
    · exact ⟨[], cutA s [] l, by rw [cutA, if_pos h, List.append_nil]⟩
    · obtain ⟨a, r, e⟩ := cutA_ne (s := s) l (acc ++ [c])
      exact ⟨c :: a, r, by rw [cutA, if_neg h, e, List.append_assoc]; rfl⟩
theorem cutA_acc {s : Nat} : ∀ (l acc a : List Nat) (r : List (List Nat)), cutA s [] l = a :: r → cutA s acc l = (acc ++ a) :: r
  | [], acc, a, r, h => by
    rw [cutA] at h ⊢
    cases h
    rw [List.append_nil]
  | c :: l, acc, a, r, h => by
    rw [cutA] at h ⊢
    by_cases hc : c = s
    · rw [if_pos hc] at h ⊢
      cases h
      rw [List.append_nil]
    · rw [if_neg hc] at h ⊢
      obtain ⟨a', r', e⟩ := cutA_ne (s := s) l []
      rw [List.nil_append] at e
      rw [cutA_acc l ([] ++ [c]) a' r' e] at h
      rw [cutA_acc l (acc ++ [c]) a' r' e]
      cases h
      simp [List.append_assoc]
theorem cut_cons {s c : Nat} {l a : List Nat} {r : List (List Nat)} (hc : c ≠ s) (h : cut s l = a :: r) : cut s (c :: l) = (c :: a) :: r := by
  unfold cut at h ⊢
  rw [cutA, if_neg hc, cutA_acc l _ a r h]
  rfl
theorem cut_ex (s : Nat) (l : List Nat) : ∃ a r, cut s l = a :: r := by
  obtain ⟨a, r, e⟩ := cutA_ne (s := s) l []
  exact ⟨[] ++ a, r, e⟩
/-- words without the void ones -/
def fw (l : List Nat) : List (List Nat) := (cut 32 l).filter fun w => !w.isEmpty
theorem wordsOf_fw (l : List Nat) : wordsOf l = (fw l).map mk := rfl
theorem fw_sp (r : List Nat) : fw (32 :: r) = fw r := by
  unfold fw
  have e : cut 32 (32 :: r) = [] :: cut 32 r := cut_hit (p := []) (by simp)
  rw [e]
  rfl
theorem fw_word {w r : List Nat} (h0 : w ≠ []) (h : 32 ∉ w) : fw (w ++ 32 :: r) = w :: fw r := by
  unfold fw
  rw [cut_hit h, List.filter_cons, if_pos]
  cases w with
  | nil => exact absurd rfl h0
  | cons _ _ => rfl
theorem fw_last {w : List Nat} (h0 : w ≠ []) (h : 32 ∉ w) : fw w = [w] := by
  unfold fw
  rw [cut_last h, List.filter_cons, if_pos]
  · rfl
  · cases w with
    | nil => exact absurd rfl h0
    | cons _ _ => rfl
/-- a good word: not void, no space, no line's end in it -/
def gw (w : Str) : Prop := tl w ≠ [] ∧ 32 ∉ tl w ∧ 10 ∉ tl w
theorem fw_join1 : ∀ {ws : List Str}, (∀ w ∈ ws, gw w) → fw (joinL [32] (ws.map tl)) = ws.map tl
  | [], _ => rfl
  | [w], h => fw_last (h w List.mem_cons_self).1 (h w List.mem_cons_self).2.1
  | w :: v :: r, h => by
    have hw := h w List.mem_cons_self
    show fw (tl w ++ ([32] ++ joinL [32] ((v :: r).map tl))) = _
    rw [List.singleton_append, fw_word hw.1 hw.2.1, fw_join1 fun x hx => h x (List.mem_cons_of_mem _ hx)]
    rfl
theorem fw_join2 : ∀ {ws : List Str}, (∀ w ∈ ws, gw w) → fw (joinL [32, 32] (ws.map tl)) = ws.map tl
  | [], _ => rfl
  | [w], h => fw_last (h w List.mem_cons_self).1 (h w List.mem_cons_self).2.1
  | w :: v :: r, h => by
    have hw := h w List.mem_cons_self
    show fw (tl w ++ (32 :: 32 :: joinL [32, 32] ((v :: r).map tl))) = _
    rw [fw_word hw.1 hw.2.1, fw_sp, fw_join2 fun x hx => h x (List.mem_cons_of_mem _ hx)]
    rfl
theorem map_mk_tl (ws : List Str) : (ws.map tl).map mk = ws := by
  rw [List.map_map]
  have e : (mk ∘ tl) = id := funext fun x => mk_tl' x
  rw [e, List.map_id]
theorem joinL_mem {S : List Nat} {c : Nat} (hS : c ∉ S) : ∀ {ps : List (List Nat)}, (∀ p ∈ ps, c ∉ p) → c ∉ joinL S ps
  | [], _ => by simp [joinL]
  | [p], h => h p List.mem_cons_self
  | p :: q :: r, h => by
    show c ∉ p ++ (S ++ joinL S (q :: r))
    rw [List.mem_append, List.mem_append]
    rintro (z | z | z)
    · exact h p List.mem_cons_self z
    · exact hS z
    · exact joinL_mem hS (fun x hx => h x (List.mem_cons_of_mem _ hx)) z
/-- lines without the void ones -/
def fl (t : List Nat) : List (List Str) := ((cut 10 t).map wordsOf).filter fun ws => !ws.isEmpty
theorem fl_nl (r : List Nat) : fl (10 :: r) = fl r := by
  unfold fl
  have e : cut 10 (10 :: r) = [] :: cut 10 r := cut_hit (p := []) (by simp)
  rw [e]
  rfl
theorem fl_sp (r : List Nat) : fl (32 :: r) = fl r := by
  obtain ⟨a, q, e⟩ := cut_ex 10 r
  have e1 : cut 10 (32 :: r) = (32 :: a) :: q := cut_cons (by decide) e
  unfold fl
  rw [e, e1, List.map_cons, List.map_cons, wordsOf_fw, wordsOf_fw, fw_sp]
theorem fl_line {l r : List Nat} (h : 10 ∉ l) (h0 : wordsOf l ≠ []) : fl (l ++ 10 :: r) = wordsOf l :: fl r := by
  unfold fl
  rw [cut_hit h, List.map_cons, List.filter_cons, if_pos]
  cases q : wordsOf l with
  | nil => exact absurd q h0
  | cons _ _ => rfl
theorem fl_last {l : List Nat} (h : 10 ∉ l) (h0 : wordsOf l ≠ []) : fl l = [wordsOf l] := by
  unfold fl
  rw [cut_last h, List.map_cons, List.filter_cons, if_pos]
  · rfl
  · cases q : wordsOf l with
    | nil => exact absurd q h0
    | cons _ _ => rfl
theorem fl_join1 : ∀ {ls : List (List Nat)}, (∀ l ∈ ls, 10 ∉ l ∧ wordsOf l ≠ []) → ls ≠ [] → fl (joinL [10] ls) = ls.map wordsOf
  | [], _, h => absurd rfl h
  | [l], h, _ => fl_last (h l List.mem_cons_self).1 (h l List.mem_cons_self).2
  | l :: m :: r, h, _ => by
    have hl := h l List.mem_cons_self
    show fl (l ++ (10 :: joinL [10] (m :: r))) = _
    rw [fl_line hl.1 hl.2, fl_join1 (fun x hx => h x (List.mem_cons_of_mem _ hx)) (by simp)]
    rfl
theorem fl_join2 : ∀ {ls : List (List Nat)}, (∀ l ∈ ls, 10 ∉ l ∧ wordsOf l ≠ []) → ls ≠ [] → fl (joinL [10, 10] ls ++ [10]) = ls.map wordsOf
  | [], _, h => absurd rfl h
  | [l], h, _ => by
    have hl := h l List.mem_cons_self
    show fl (l ++ 10 :: []) = _
    rw [fl_line hl.1 hl.2]
    rfl
  | l :: m :: r, h, _ => by
    have hl := h l List.mem_cons_self
    show fl (l ++ (10 :: 10 :: joinL [10, 10] (m :: r)) ++ [10]) = _
    rw [List.append_assoc, List.cons_append, List.cons_append, fl_line hl.1 hl.2, fl_nl, fl_join2 (fun x hx => h x (List.mem_cons_of_mem _ hx)) (by simp)]
    rfl
/-- one sign replaced -/
def rp (c : Nat) (z : List Nat) (l : List Nat) : List Nat := l.flatMap fun d => if d = c then z else [d]
theorem replL_one {c : Nat} {z : List Nat} : ∀ l, StrLaws.replL [c] z l = rp c z l
  | [] => StrLaws.replL_nil
  | d :: r => by
    by_cases h : d = c
    · subst h
      rw [StrLaws.replL_hit (by simp) (by simp)]
      show z ++ StrLaws.replL [d] z r = rp d z (d :: r)
      rw [replL_one r]
      unfold rp
      rw [List.flatMap_cons, if_pos rfl]
    · rw [StrLaws.replL_miss (by simpa using h), replL_one r]
      unfold rp
      rw [List.flatMap_cons, if_neg h]
      rfl
theorem rp_free {c : Nat} {z l : List Nat} (h : c ∉ l) : rp c z l = l := by
  unfold rp
  induction l with
  | nil => rfl
  | cons d r ih =>
    rw [List.flatMap_cons, if_neg (fun e => h (by rw [e]; exact List.mem_cons_self)), ih fun q => h (List.mem_cons_of_mem _ q)]
    rfl
theorem rp_append (c : Nat) (z a b : List Nat) : rp c z (a ++ b) = rp c z a ++ rp c z b := List.flatMap_append
theorem rp_join (c : Nat) (z S : List Nat) : ∀ ps : List (List Nat), rp c z (joinL S ps) = joinL (rp c z S) (ps.map (rp c z))
  | [] => rfl
  | [p] => rfl
  | p :: q :: r => by
    show rp c z (p ++ (S ++ joinL S (q :: r))) = _
    rw [rp_append, rp_append, rp_join c z S (q :: r)]
    rfl

/-! ### good lines -/
theorem gw_num (i : Int) : gw (numS i) := by
  unfold gw
  rw [tl_numS]
  unfold numL'
  have key : ∀ n, numL n ≠ [] ∧ 32 ∉ numL n ∧ 10 ∉ numL n := fun n => ⟨numL_ne n, numL_free (by omega), numL_free (by omega)⟩
  split
  · obtain ⟨_, h1, h2⟩ := key i.natAbs
    exact ⟨by simp, by simp [h1], by simp [h2]⟩
  · exact key _
theorem gw_name {x : Str} (h : isName x = true) : gw x := by
  obtain ⟨c, r, e, _, _⟩ := isName_cons h
  obtain ⟨_, _, _, h4⟩ := isName_spec h
  exact ⟨by rw [e]; simp, fun q => by have := h4 _ q; omega, fun q => by have := h4 _ q; omega⟩
/-- a good line: not void, of good words -/
def gl (ws : List Str) : Prop := ws ≠ [] ∧ ∀ w ∈ ws, gw w
theorem gw_lit {w : Str} (h : (tl w ≠ [] ∧ 32 ∉ tl w ∧ 10 ∉ tl w)) : gw w := h
theorem gw_sum {names : List Str} (hn : ∀ x ∈ names, isName x = true) : ∀ (s : Sm) (inn : Bool), okSm names s → ∀ w ∈ sumW s inn, gw w
  | .num i, inn, h => by
    have e : sumW (.num i) inn = [numS i] := by cases inn <;> rfl
    rw [e]
    intro w hw
    rw [List.mem_singleton.mp hw]
    exact gw_num i
  | .nam x, inn, h => by
    have e : sumW (.nam x) inn = [x] := by cases inn <;> rfl
    rw [e]
    intro w hw
    rw [List.mem_singleton.mp hw]
    exact gw_name h.2
  | .bin p a b, inn, h => by
    have f : ∀ w ∈ sumW a false ++ [sg p] ++ sumW b true, gw w := by
      intro w hw
      rw [List.mem_append, List.mem_append] at hw
      rcases hw with (hw | hw) | hw
      · exact gw_sum hn a false h.1 w hw
      · rw [List.mem_singleton.mp hw]
        cases p <;> exact gw_lit (by decide +kernel)
      · exact gw_sum hn b true h.2 w hw
    cases inn with
    | false => exact f
    | true =>
      intro w hw
      have hw' : w ∈ (["("] : List Str) ++ (sumW a false ++ [sg p] ++ sumW b true) ++ ([")"] : List Str) := hw
      rw [List.mem_append, List.mem_append] at hw'
      rcases hw' with (hw | hw) | hw
      · rw [List.mem_singleton.mp hw]
        exact gw_lit (by decide +kernel)
      · exact f w hw
      · rw [List.mem_singleton.mp hw]
        exact gw_lit (by decide +kernel)
theorem gl_cons {w : Str} {ws : List Str} (h : gw w) (hs : ∀ v ∈ ws, gw v) : gl (w :: ws) := ⟨by simp, fun v hv => by
  rcases List.mem_cons.mp hv with e | e
  · rw [e]
    exact h
  · exact hs v e⟩
theorem gw_ts {names : List Str} (hn : ∀ x ∈ names, isName x = true) {s : Sm} {z : Bool} (h : okSm names s) : ∀ w ∈ tsW s z, gw w := by
  intro w hw
  have hw' : w ∈ sumW s false ++ ([eqS z, "0"] : List Str) := hw
  rcases List.mem_append.mp hw' with e | e
  · exact gw_sum hn s false h w e
  · rcases List.mem_cons.mp e with e | e
    · rw [e]
      cases z <;> exact gw_lit (by decide +kernel)
    · rw [List.mem_singleton.mp e]
      exact gw_lit (by decide +kernel)
theorem gl_end : gl (["end"] : List Str) := gl_cons (gw_lit (by decide +kernel)) (by simp)
theorem gl_else : gl (["else"] : List Str) := gl_cons (gw_lit (by decide +kernel)) (by simp)
mutual
theorem gl_part {names done : List Str} (hn : ∀ x ∈ names, isName x = true) (hd : ∀ x ∈ done, isName x = true) : ∀ (p : Pt) (d : Nat), okP names done d p → ∀ ws ∈ linesP p, gl ws
  | .letP x s, d, h => by
    rw [linesP]
    rw [okP] at h
    intro ws hw
    rw [List.mem_singleton.mp hw]
    refine gl_cons (gw_lit (by decide +kernel)) fun v hv => ?_
    have hv' : v ∈ x :: ("=" : Str) :: sumW s false := hv
    rcases List.mem_cons.mp hv' with e | e
    · rw [e]
      exact gw_name (hn x h.1)
    · rcases List.mem_cons.mp e with e | e
      · rw [e]
        exact gw_lit (by decide +kernel)
      · exact gw_sum hn s false h.2.1 v e
  | .say s, d, h => by
    rw [linesP]
    rw [okP] at h
    intro ws hw
    rw [List.mem_singleton.mp hw]
    exact gl_cons (gw_lit (by decide +kernel)) (gw_sum hn s false h.1)
  | .ask x, d, h => by
    rw [linesP]
    rw [okP] at h
    intro ws hw
    rw [List.mem_singleton.mp hw]
    refine gl_cons (gw_lit (by decide +kernel)) fun v hv => ?_
    rw [List.mem_singleton.mp hv]
    exact gw_name (hn x h)
  | .doP x, d, h => by
    rw [linesP]
    rw [okP] at h
    intro ws hw
    rw [List.mem_singleton.mp hw]
    refine gl_cons (gw_lit (by decide +kernel)) fun v hv => ?_
    rw [List.mem_singleton.mp hv]
    exact gw_name (hd x h)
  | .stop, d, h => by
    rw [linesP]
    intro ws hw
    rw [List.mem_singleton.mp hw]
    exact gl_cons (gw_lit (by decide +kernel)) (by simp)
  | .whl s z b, d, h => by
    rw [linesP]
    rw [okP] at h
    intro ws hw
    rw [List.mem_append, List.mem_append] at hw
    rcases hw with (hw | hw) | hw
    · rw [List.mem_singleton.mp hw]
      exact gl_cons (gw_lit (by decide +kernel)) (gw_ts hn h.1.1)
    · exact gl_block hn hd b _ h.2.2 ws hw
    · rw [List.mem_singleton.mp hw]
      exact gl_end
  | .rep n b, d, h => by
    rw [linesP]
    rw [okP] at h
    intro ws hw
    rw [List.mem_append, List.mem_append] at hw
    rcases hw with (hw | hw) | hw
    · rw [List.mem_singleton.mp hw]
      refine gl_cons (gw_lit (by decide +kernel)) fun v hv => ?_
      rw [List.mem_singleton.mp hv]
      exact gw_num _
    · exact gl_block hn hd b _ h.2.2 ws hw
    · rw [List.mem_singleton.mp hw]
      exact gl_end
  | .ifP s z b c, d, h => by
    rw [linesP_if]
    rw [okP] at h
    intro ws hw
    rw [List.mem_append, List.mem_append, List.mem_append] at hw
    rcases hw with ((hw | hw) | hw) | hw
    · rw [List.mem_singleton.mp hw]
      exact gl_cons (gw_lit (by decide +kernel)) (gw_ts hn h.1.1)
    · exact gl_block hn hd b _ h.2.2.1 ws hw
    · split at hw
      · cases hw
      · rcases List.mem_append.mp hw with e | e
        · rw [List.mem_singleton.mp e]
          exact gl_else
        · exact gl_block hn hd c _ h.2.2.2 ws e
    · rw [List.mem_singleton.mp hw]
      exact gl_end
theorem gl_block {names done : List Str} (hn : ∀ x ∈ names, isName x = true) (hd : ∀ x ∈ done, isName x = true) : ∀ (b : List Pt) (d : Nat), okB names done d b → ∀ ws ∈ linesB b, gl ws
  | [], d, h => by
    rw [linesB]
    intro ws hw
    cases hw
  | p :: r, d, h => by
    rw [okB] at h
    rw [linesB]
    intro ws hw
    rcases List.mem_append.mp hw with e | e
    · exact gl_part hn hd p d h.1 ws e
    · exact gl_block hn hd r d h.2 ws e
end
theorem gl_procs {names : List Str} (hn : ∀ x ∈ names, isName x = true) : ∀ (ps : List (Str × List Pt)) (done : List Str), (∀ x ∈ done, isName x = true) → okProcs names done ps → (∀ x ∈ ps.map (·.1), isName x = true) ∧ ∀ ws ∈ (ps.map procL).flatten, gl ws
  | [], done, _, _ => ⟨by simp, by simp⟩
  | q :: r, done, hd, h => by
    obtain ⟨x, b⟩ := q
    rw [okProcs] at h
    obtain ⟨h1, h2, h3, h4⟩ := h
    have hd' : ∀ y ∈ done ++ [x], isName y = true := fun y hy => by
      rcases List.mem_append.mp hy with e | e
      · exact hd y e
      · rw [List.mem_singleton.mp e]
        exact h1
    obtain ⟨i1, i2⟩ := gl_procs hn r (done ++ [x]) hd' h4
    refine ⟨fun y hy => ?_, fun ws hw => ?_⟩
    · rw [List.map_cons] at hy
      rcases List.mem_cons.mp hy with e | e
      · rw [e]
        exact h1
      · exact i1 y e
    · rw [List.map_cons, List.flatten_cons] at hw
      rcases List.mem_append.mp hw with e | e
      · have e' : ws ∈ [(["to", x] : List Str)] ++ linesB b ++ [(["end"] : List Str)] := e
        rw [List.mem_append, List.mem_append] at e'
        rcases e' with (e | e) | e
        · rw [List.mem_singleton.mp e]
          refine gl_cons (gw_lit (by decide +kernel)) fun v hv => ?_
          rw [List.mem_singleton.mp hv]
          exact gw_name h1
        · exact gl_block hn hd b _ h3 ws e
        · rw [List.mem_singleton.mp e]
          exact gl_end
      · exact i2 ws e
theorem gl_prog {p : Pg} (h : okPg p) : ∀ ws ∈ progL p, gl ws := by
  obtain ⟨i1, i2⟩ := gl_procs h.nm p.procs [] (by simp) h.pr
  intro ws hw
  have hw' : ws ∈ [(["names"] : List Str) ++ p.names] ++ (p.procs.map procL).flatten ++ linesB p.block := hw
  rw [List.mem_append, List.mem_append] at hw'
  rcases hw' with (e | e) | e
  · rw [List.mem_singleton.mp e]
    exact gl_cons (gw_lit (by decide +kernel)) fun v hv => gw_name (h.nm v hv)
  · exact i2 ws e
  · exact gl_block h.nm i1 p.block _ h.bl ws e
/-- a line's signs -/
theorem line_ok {S : List Nat} (hS : 10 ∉ S) (hf : ∀ ws : List Str, (∀ w ∈ ws, gw w) → fw (joinL S (ws.map tl)) = ws.map tl) {ws : List Str} (h : gl ws) : 10 ∉ joinL S (ws.map tl) ∧ wordsOf (joinL S (ws.map tl)) = ws := by
  constructor
  · refine joinL_mem hS fun p hp => ?_
    obtain ⟨w, hw, e⟩ := List.mem_map.mp hp
    rw [← e]
    exact (h.2 w hw).2.2
  · rw [wordsOf_fw, hf ws h.2, map_mk_tl]
theorem lines_back {S : List Nat} (hS : 10 ∉ S) (hf : ∀ ws : List Str, (∀ w ∈ ws, gw w) → fw (joinL S (ws.map tl)) = ws.map tl) {ls : List (List Str)} (h : ∀ ws ∈ ls, gl ws) :
    (∀ l ∈ ls.map (fun ws => joinL S (ws.map tl)), 10 ∉ l ∧ wordsOf l ≠ []) ∧ (ls.map (fun ws => joinL S (ws.map tl))).map wordsOf = ls := by
  constructor
  · intro l hl
    obtain ⟨ws, hw, e⟩ := List.mem_map.mp hl
    obtain ⟨h1, h2⟩ := line_ok hS hf (h ws hw)
    rw [← e, h2]
    exact ⟨h1, (h ws hw).1⟩
  · rw [List.map_map]
    conv => rhs; rw [← List.map_id ls]
    refine List.map_congr_left fun ws hw => ?_
    exact (line_ok hS hf (h ws hw)).2
theorem tl_nl : tl ("\n" : Str) = [10] := by decide +kernel
theorem tl_sp : tl (" " : Str) = [32] := by decide +kernel
theorem tl_text (p : Pg) : tl (textOf p) = joinL [10] ((progL p).map fun ws => joinL [32] (ws.map tl)) := by
  unfold textOf
  rw [tl_join, tl_nl, List.map_map]
  congr 1
  refine List.map_congr_left fun ws _ => ?_
  show tl (jn ws) = _
  unfold jn
  rw [tl_join, tl_sp]
theorem readT_of {p : Pg} {t : List Nat} (h : okPg p) (e : fl t = progL p) : readT t = .ok p := by
  obtain ⟨st, h1, h2⟩ := read_prog h
  unfold readT
  rw [runL_of _ rd0 st (by rw [show (((cut 10 t).map wordsOf).filter fun ws => !ws.isEmpty) = progL p from e]; exact h1) 0]
  exact h2 _
theorem progL_ne (p : Pg) : progL p ≠ [] := by
  unfold progL
  simp
/-- THE READ-BACK -/
theorem read_text {p : Pg} (h : okPg p) : readT (tl (textOf p)) = .ok p := by
  refine readT_of h ?_
  obtain ⟨h1, h2⟩ := lines_back (S := [32]) (by decide) (fun ws hw => fw_join1 hw) (gl_prog h)
  rw [tl_text, fl_join1 h1 (by simpa using progL_ne p), h2]
/-- the text with more spaces and void lines -/
def wideText (t : Str) : Str := ("\n " : Str) ++ Txt.replace (Txt.replace t " " "  ") "\n" "\n\n" ++ ("\n" : Str)
theorem tl_wide (p : Pg) (h : okPg p) : tl (wideText (textOf p)) = 10 :: 32 :: (joinL [10, 10] ((progL p).map fun ws => joinL [32, 32] (ws.map tl)) ++ [10]) := by
  have r1 : tl (Txt.replace (textOf p) " " "  ") = rp 32 [32, 32] (tl (textOf p)) := by
    have e := StrLaws.replace_list (x := textOf p) (y := " ") (z := "  ") (by decide +kernel)
    have e1 : ((" " : Str)).cps.toList = [32] := by decide +kernel
    have e2 : (("  " : Str)).cps.toList = [32, 32] := by decide +kernel
    rw [e1, e2, replL_one] at e
    exact e
  have r2 : tl (Txt.replace (Txt.replace (textOf p) " " "  ") "\n" "\n\n") = rp 10 [10, 10] (rp 32 [32, 32] (tl (textOf p))) := by
    have e := StrLaws.replace_list (x := Txt.replace (textOf p) " " "  ") (y := "\n") (z := "\n\n") (by decide +kernel)
    have e1 : (("\n" : Str)).cps.toList = [10] := by decide +kernel
    have e2 : (("\n\n" : Str)).cps.toList = [10, 10] := by decide +kernel
    rw [e1, e2, replL_one, show (Txt.replace (textOf p) " " "  ").cps.toList = _ from r1] at e
    exact e
  unfold wideText
  rw [tl_append, tl_append, r2, tl_text, rp_join, rp_join, tl_nl]
  have e0 : tl ("\n " : Str) = [10, 32] := by decide +kernel
  have e3 : rp 10 [10, 10] (rp 32 [32, 32] [10]) = [10, 10] := by decide
  rw [e0, e3, List.map_map, List.map_map]
  have e4 : (progL p).map (((rp 10 [10, 10]) ∘ (rp 32 [32, 32])) ∘ fun ws => joinL [32] (ws.map tl)) = (progL p).map fun ws => joinL [32, 32] (ws.map tl) := by
    refine List.map_congr_left fun ws hw => ?_
    show rp 10 [10, 10] (rp 32 [32, 32] (joinL [32] (ws.map tl))) = _
    rw [rp_join, rp_join]
    have e5 : rp 10 [10, 10] (rp 32 [32, 32] [32]) = [32, 32] := by decide
    rw [e5, List.map_map, List.map_map]
    congr 1
    refine List.map_congr_left fun w hw2 => ?_
    have g := (gl_prog h ws hw).2 w hw2
    show rp 10 [10, 10] (rp 32 [32, 32] (tl w)) = tl w
    rw [rp_free g.2.1, rp_free g.2.2]
  rw [e4]
  rfl
theorem read_wide {p : Pg} (h : okPg p) : readT (tl (wideText (textOf p))) = .ok p := by
  refine readT_of h ?_
  obtain ⟨h1, h2⟩ := lines_back (S := [32, 32]) (by decide) (fun ws hw => fw_join2 hw) (gl_prog h)
  rw [tl_wide p h, fl_nl, fl_sp, fl_join2 h1 (by simpa using progL_ne p), h2]
end RS
end
section
set_option Elab.async false
set_option linter.all false
set_option maxRecDepth 100000
set_option maxHeartbeats 4000000
/-! W0: the frame of the walk. -/
namespace RS
open PySem L2 TL Evl

def top (i : Nat) : Stmt := PySem.Challenge.pw_restlesshelf_k63_whole_blocks_as_text.main.body.getD i (.Pass ⟨0, 0, 0, 0⟩)

/-! ### data on the heap: texts, ints, bools, None and tuples of them -/
inductive Dt where
  | non | bl (b : Bool) | int (i : Int) | str (x : Str) | tup (ds : List Dt)
mutual
def Td (H : Hp) : Dt → V → Prop
  | .non, v => v = .non
  | .bl b, v => v = .bl b
  | .int i, v => v = .int i
  | .str x, v => v = .str x
  | .tup ds, v => ∃ (a : Addr) (xs : List V), v = .ref a ∧ H a = some (.tup xs) ∧ TdL H ds xs
def TdL (H : Hp) : List Dt → List V → Prop
  | [], xs => xs = []
  | d :: ds, xs => ∃ (x : V) (r : List V), xs = x :: r ∧ Td H d x ∧ TdL H ds r
end
/-- the tuples stay -/
def TK (H H' : Hp) : Prop := ∀ a xs, H a = some (.tup xs) → H' a = some (.tup xs)
theorem TK.of {H H' : Hp} (e : Ex H H') : TK H H' := fun a xs h => e a _ h
theorem TK.trans {H H1 H2 : Hp} (a : TK H H1) (b : TK H1 H2) : TK H H2 := fun c o h => b c o (a c o h)
theorem TK.upd {H H' : Hp} {a : Addr} {o u : HO} (k : TK H H') (h : H a = some o) (n : ∀ xs, o ≠ .tup xs) : TK H (upd H' a u) := fun b xs e => by
  have hb : b ≠ a := fun z => by
    rw [z, h] at e
    exact n xs (Option.some.inj e)
  rw [upd_ne hb]
  exact k b xs e
theorem TK.updN {H H' : Hp} {a : Addr} {u : HO} (k : TK H H') (h : H a = none) : TK H (L2.upd H' a u) := fun b xs e => by
  rw [upd_ne (ne_of_none e h)]
  exact k b xs e
mutual
theorem Td.tk {H H' : Hp} (k : TK H H') : ∀ (d : Dt) (v : V), Td H d v → Td H' d v
  | .non, _, h => h
  | .bl _, _, h => h
  | .int _, _, h => h
  | .str _, _, h => h
  | .tup ds, v, h => by
    obtain ⟨a, xs, e, ha, hx⟩ := h
    exact ⟨a, xs, e, k a xs ha, TdL.tk k ds xs hx⟩
theorem TdL.tk {H H' : Hp} (k : TK H H') : ∀ (ds : List Dt) (xs : List V), TdL H ds xs → TdL H' ds xs
  | [], _, h => h
  | d :: ds, xs, h => by
    obtain ⟨x, r, e, h1, h2⟩ := h
    exact ⟨x, r, e, Td.tk k d x h1, TdL.tk k ds r h2⟩
end
theorem Td.ex {H H' : Hp} {d : Dt} {v : V} (e : Ex H H') (h : Td H d v) : Td H' d v := Td.tk (TK.of e) d v h
theorem TdL.ex {H H' : Hp} {ds : List Dt} {xs : List V} (e : Ex H H') (h : TdL H ds xs) : TdL H' ds xs := TdL.tk (TK.of e) ds xs h
theorem TdL.len {H : Hp} : ∀ {ds : List Dt} {xs : List V}, TdL H ds xs → xs.length = ds.length
  | [], _, h => by rw [show _ = _ from h]; rfl
  | d :: ds, xs, h => by
    obtain ⟨x, r, e, _, h2⟩ := h
    rw [e, List.length_cons, List.length_cons, TdL.len h2]
theorem TdL.get {H : Hp} : ∀ {ds : List Dt} {xs : List V} {i : Nat} {x : V}, TdL H ds xs → xs[i]? = some x → ∃ d, ds[i]? = some d ∧ Td H d x
  | [], _, i, x, h, e => by
    rw [show _ = _ from h] at e
    simp at e
  | d :: ds, xs, i, x, h, e => by
    obtain ⟨y, r, q, h1, h2⟩ := h
    subst q
    cases i with
    | zero =>
      have e' : y = x := Option.some.inj e
      subst e'
      exact ⟨d, rfl, h1⟩
    | succ i => exact TdL.get (i := i) h2 e
theorem TdL.append {H : Hp} : ∀ {ds es : List Dt} {xs ys : List V}, TdL H ds xs → TdL H es ys → TdL H (ds ++ es) (xs ++ ys)
  | [], _, _, _, h, g => by
    rw [show _ = _ from h]
    exact g
  | d :: ds, es, xs, ys, h, g => by
    obtain ⟨x, r, q, h1, h2⟩ := h
    subst q
    exact ⟨x, r ++ ys, rfl, h1, TdL.append h2 g⟩
theorem TdL.one {H : Hp} {d : Dt} {x : V} (h : Td H d x) : TdL H [d] [x] := ⟨x, [], rfl, h, rfl⟩
theorem TdL.strs {H : Hp} : ∀ {l : List Str} {xs : List V}, TdL H (l.map Dt.str) xs → xs = l.map V.str
  | [], _, h => h
  | x :: l, xs, h => by
    obtain ⟨y, r, q, h1, h2⟩ := h
    subst q
    rw [show y = V.str x from h1, TdL.strs h2]
    rfl
theorem TdL.ofStrs {H : Hp} : ∀ l : List Str, TdL H (l.map Dt.str) (l.map V.str)
  | [] => rfl
  | x :: l => ⟨.str x, l.map V.str, rfl, rfl, TdL.ofStrs l⟩
/-! to the library's data -/
mutual
def toP : Dt → PyData
  | .non => .none
  | .bl b => .bool b
  | .int i => .int i
  | .str x => .str x
  | .tup ds => .tuple (toPs ds)
def toPs : List Dt → List PyData
  | [] => []
  | d :: ds => toP d :: toPs ds
end
mutual
theorem Td.toDp {K : PySem.W.Frag} {H : Hp} : ∀ (d : Dt) (v : V), Td H d v → Dp K H v (toP d)
  | .non, v, h => by rw [show v = _ from h]; exact .non
  | .bl b, v, h => by rw [show v = _ from h]; exact .bl b
  | .int i, v, h => by rw [show v = _ from h]; exact .int i
  | .str x, v, h => by rw [show v = _ from h]; exact .str x
  | .tup ds, v, h => by
    obtain ⟨a, xs, e, ha, hx⟩ := h
    subst e
    exact .tup (SqT.of ha) (TdL.toDp ds xs hx)
theorem TdL.toDp {K : PySem.W.Frag} {H : Hp} : ∀ (ds : List Dt) (xs : List V), TdL H ds xs → DpAll K H xs (toPs ds)
  | [], xs, h => by rw [show xs = _ from h]; exact .nil
  | d :: ds, xs, h => by
    obtain ⟨x, r, e, h1, h2⟩ := h
    subst e
    exact .cons (Td.toDp d x h1) (TdL.toDp ds r h2)
end

/-! ### the program's data -/
def sgn : Bool → Str
  | true => "plus"
  | false => "minus"
def eS : Sm → Dt
  | .num i => .int i
  | .nam x => .str x
  | .bin p a b => .tup [.str (sgn p), eS a, eS b]
def eT (s : Sm) (z : Bool) : Dt := .tup [eS s, .bl z]
mutual
def eP : Pt → Dt
  | .letP x s => .tup [.str "let", .str x, eS s]
  | .say s => .tup [.str "say", eS s]
  | .ask x => .tup [.str "ask", .str x]
  | .doP x => .tup [.str "do", .str x]
  | .stop => .tup [.str "stop"]
  | .whl s z b => .tup [.str "while", .tup [eS s, .bl z], .tup (ePs b)]
  | .rep n b => .tup [.str "repeat", .int n, .tup (ePs b)]
  | .ifP s z b c => .tup [.str "if", .tup [eS s, .bl z], .tup (ePs b), .tup (ePs c)]
def ePs : List Pt → List Dt
  | [] => []
  | p :: r => eP p :: ePs r
end
def eB (b : List Pt) : Dt := .tup (ePs b)
theorem ePs_map (b : List Pt) : ePs b = b.map eP := by
  induction b with
  | nil => rfl
  | cons p r ih => rw [ePs, ih]; rfl
def eN (l : List Str) : Dt := .tup (l.map Dt.str)
def eQ (q : Str × List Pt) : Dt := .tup [.str q.1, eB q.2]
def eG (p : Pg) : Dt := .tup [eN p.names, .tup (p.procs.map eQ), eB p.block]

/-! ### defs of the text -/
/-- a def of the module under its name -/
def DefT (K : PySem.W.Frag) (mg : Str → Option Value) (x : Str) (st : Stmt) (dvs : List V) : Prop := ∃ (f : Addr) (fd : FuncData), FunD K x x (defArgs st) (defBody st) (defScope st) dvs [] f fd ∧ mg x = some (.ref f)
/-- a method of the class at C -/
def MetT (K : PySem.W.Frag) (C : Addr) (m qual : Str) (st : Stmt) (dvs : List V) : Prop := ∃ (f : Addr) (fd : FuncData), FunD K m qual (defArgs st) (defBody st) (defScope st) dvs [] f fd ∧ Meth K C m f
/-- what may be called by its name -/
structure CalG (CX : CXT) (P : Program) (w : World) (K : PySem.W.Frag) (mg : Str → Option Value) (base : Heap) (k : Nat) (x : Str) (sp : Sp) (dvs : List V) : Prop where
  ex : ∃ (f : Addr) (fd : FuncData) (ps : List Str) (ds : List Value), FnOk P w K mg base CX k f fd ps sp ∧ mg x = some (.ref f) ∧ PySem.W.keepIn K (.ref f) = true ∧ Binds K fd ps ds ∧ Vals dvs ds
structure MetG (CX : CXT) (P : Program) (w : World) (K : PySem.W.Frag) (mg : Str → Option Value) (base : Heap) (k : Nat) (C : Addr) (m : Str) (sp : Sp) (dvs : List V) : Prop where
  ex : ∃ (f : Addr) (fd : FuncData) (ps : List Str) (ds : List Value), Cls K C ∧ Meth K C m f ∧ FnOk P w K mg base CX k f fd ps sp ∧ Binds K fd ps ds ∧ Vals dvs ds
structure MakG (CX : CXT) (P : Program) (w : World) (K : PySem.W.Frag) (mg : Str → Option Value) (base : Heap) (k : Nat) (x : Str) (C : Addr) (sp : Sp) (dvs : List V) : Prop where
  ex : ∃ (f : Addr) (fd : FuncData) (ps : List Str) (ds : List Value), Mk K C f ∧ FnOk P w K mg base CX k f fd ps sp ∧ mg x = some (.ref C) ∧ Binds K fd ps ds ∧ Vals dvs ds
abbrev CXX (P : Program) (w : World) : CXT := L2.CX P w
section
variable {P : Program} {w : World} {K : PySem.W.Frag} {mg : Str → Option Value} {base : Heap} {CX : CXT} {x m : Str} {C : Addr} {sp : Sp} {dvs : List V} {j k : Nat}
theorem CalG.mono (c : CalG CX P w K mg base j x sp dvs) (h : j ≤ k) : CalG CX P w K mg base k x sp dvs := by
  obtain ⟨f, fd, ps, ds, F, r⟩ := c.ex
  exact ⟨f, fd, ps, ds, F.mono h, r⟩
theorem MetG.mono (c : MetG CX P w K mg base j C m sp dvs) (h : j ≤ k) : MetG CX P w K mg base k C m sp dvs := by
  obtain ⟨f, fd, ps, ds, c1, c2, F, r⟩ := c.ex
  exact ⟨f, fd, ps, ds, c1, c2, F.mono h, r⟩
theorem CalG.imp {sp' : Sp} (c : CalG CX P w K mg base k x sp dvs) (h : ∀ vs H Q E, sp' vs H Q E → sp vs H Q E) : CalG CX P w K mg base k x sp' dvs := by
  obtain ⟨f, fd, ps, ds, F, r⟩ := c.ex
  exact ⟨f, fd, ps, ds, F.imp h, r⟩
/-- a promise that asks what cannot be -/
theorem FnOk.never {f : Addr} {fd : FuncData} {ps : List Str} (no : ∀ vs H Q E, ¬ sp vs H Q E) : FnOk P w K mg base CX k f fd ps sp :=
  ⟨fun vs H Q E h => absurd h (no vs H Q E), fun A outer s H args us vs Q E _ _ _ _ h => absurd h (no vs H Q E)⟩
end
section
variable {X : Cx} {k j : Nat} {C : Addr} {CX : CXT} {x m : Str} {sp : Sp} {dvs : List V} {p pos apos : Pos} {e o : Expr} {es : List Expr} {ta : TE} {t : TA} {E : XK}
theorem pe_f0 (c : CalG CX0 X.prog X.w X.K X.mg X.base k x sp dvs) (hr : Room j X.A) (hk : k ≤ j) (hg : Gl X x) (ha : PA X (e :: es) t)
    (hdb : (x == ("__debug__" : Str)) = false := by decide) (he : starEach (e :: es) X.env = (false, eval e X.env) :: starEach es X.env := by rfl) (hpl : (backTo pos (starEach es X.env)).any (·.1) = false := by rfl) :
    PE X (.Call (.Name x p) (e :: es) [] pos) (tCall sp dvs E0 t) := by
  obtain ⟨f, fd, ps, ds, F, hm, kp, b, d⟩ := c.ex
  exact pe_call F (hr.mono hk) hg hm kp b d pass0 ha hdb he hpl
theorem pe_fX (c : CalG (CXX X.prog X.w) X.prog X.w X.K X.mg X.base k x sp dvs) (hr : Room j X.A) (hk : k ≤ j) (hx : Passes (L2.CX X.prog X.w) X E) (hg : Gl X x) (ha : PA X (e :: es) t)
    (hdb : (x == ("__debug__" : Str)) = false := by decide) (he : starEach (e :: es) X.env = (false, eval e X.env) :: starEach es X.env := by rfl) (hpl : (backTo pos (starEach es X.env)).any (·.1) = false := by rfl) :
    PE X (.Call (.Name x p) (e :: es) [] pos) (tCall sp dvs E t) := by
  obtain ⟨f, fd, ps, ds, F, hm, kp, b, d⟩ := c.ex
  exact pe_call F (hr.mono hk) hg hm kp b d hx ha hdb he hpl
theorem pe_k (c : MakG CX0 X.prog X.w X.K X.mg X.base k x C sp dvs) (hr : Room j X.A) (hk : k + 1 ≤ j) (hg : Gl X x) (ha : PA X (e :: es) t)
    (hdb : (x == ("__debug__" : Str)) = false := by decide) (he : starEach (e :: es) X.env = (false, eval e X.env) :: starEach es X.env := by rfl) (hpl : (backTo pos (starEach es X.env)).any (·.1) = false := by rfl) :
    PE X (.Call (.Name x p) (e :: es) [] pos) (tMake C sp dvs E0 t) := by
  obtain ⟨f, fd, ps, ds, M, F, hm, b, d⟩ := c.ex
  exact pe_make M F (hr.mono hk) hg hm b d pass0 ha hdb he hpl
theorem pe_k0 (c : MakG CX0 X.prog X.w X.K X.mg X.base k x C sp dvs) (hr : Room j X.A) (hk : k + 1 ≤ j) (hg : Gl X x)
    (hdb : (x == ("__debug__" : Str)) = false := by decide) :
    PE X (.Call (.Name x p) [] [] pos) (tMake C sp dvs E0 tNil) := by
  obtain ⟨f, fd, ps, ds, M, F, hm, b, d⟩ := c.ex
  exact pe_make0 M F (hr.mono hk) hg hm b d pass0 hdb
theorem pe_m0' {pl : Sem Bool} (c : MetG CX0 X.prog X.w X.K X.mg X.base k C m sp dvs) (hr : Room j X.A) (hk : k ≤ j) (he : PE X o ta) (ha : PA X (e :: es) t)
    (hst : starEach (e :: es) X.env = (false, eval e X.env) :: starEach es X.env := by rfl) (hpl : (backTo pos (starEach es X.env)).any (·.1) = false := by rfl)
    (ht : eval (.Call (.Attribute o m apos) (e :: es) [] pos) X.env = (do
      let ov ← eval o X.env
      standAt apos.atName
      let (f, first) ← holding [ov] (getMethod ov m pl)
      callWith pos f first (backTo pos (starEach (e :: es) X.env)) (backToKw pos (keywordEach [] X.env))) := by rfl) :
    PE X (.Call (.Attribute o m apos) (e :: es) [] pos) (tMeth C m sp dvs E0 ta t) := by
  obtain ⟨f, fd, ps, ds, hc, hm, F, b, d⟩ := c.ex
  exact pe_meth (pl := pl) he hc hm F (hr.mono hk) b d pass0 ha hst hpl ht
theorem pe_m00 {pl : Sem Bool} (c : MetG CX0 X.prog X.w X.K X.mg X.base k C m sp dvs) (hr : Room j X.A) (hk : k ≤ j) (he : PE X o ta)
    (ht : eval (.Call (.Attribute o m apos) [] [] pos) X.env = (do
      let ov ← eval o X.env
      standAt apos.atName
      let (f, first) ← holding [ov] (getMethod ov m pl)
      callWith pos f first (backTo pos (starEach [] X.env)) (backToKw pos (keywordEach [] X.env))) := by rfl) :
    PE X (.Call (.Attribute o m apos) [] [] pos) (tMeth C m sp dvs E0 ta tNil) := by
  obtain ⟨f, fd, ps, ds, hc, hm, F, b, d⟩ := c.ex
  exact pe_meth0 (pl := pl) he hc hm F (hr.mono hk) b d pass0 ht
theorem pe_mX {pl : Sem Bool} (c : MetG (CXX X.prog X.w) X.prog X.w X.K X.mg X.base k C m sp dvs) (hr : Room j X.A) (hk : k ≤ j) (hx : Passes (L2.CX X.prog X.w) X E) (he : PE X o ta) (ha : PA X (e :: es) t)
    (hst : starEach (e :: es) X.env = (false, eval e X.env) :: starEach es X.env := by rfl) (hpl : (backTo pos (starEach es X.env)).any (·.1) = false := by rfl)
    (ht : eval (.Call (.Attribute o m apos) (e :: es) [] pos) X.env = (do
      let ov ← eval o X.env
      standAt apos.atName
      let (f, first) ← holding [ov] (getMethod ov m pl)
      callWith pos f first (backTo pos (starEach (e :: es) X.env)) (backToKw pos (keywordEach [] X.env))) := by rfl) :
    PE X (.Call (.Attribute o m apos) (e :: es) [] pos) (tMeth C m sp dvs E ta t) := by
  obtain ⟨f, fd, ps, ds, hc, hm, F, b, d⟩ := c.ex
  exact pe_meth (pl := pl) he hc hm F (hr.mono hk) b d hx ha hst hpl ht
/-! texts -/
theorem foldl_cps : ∀ (l : List (Array Nat)) (acc : Array Nat), (l.foldl (· ++ ·) acc).toList = acc.toList ++ (l.map Array.toList).flatten
  | [], acc => by simp
  | a :: l, acc => by
    rw [List.foldl_cons, foldl_cps l (acc ++ a)]
    simp
def repS (z : Str) (n : Nat) : Str := mk (List.replicate n (tl z)).flatten
theorem op_mul_str : OpR X (binaryOp .Mult) (fun x y H Q => ∃ (z : Str) (n : Int), x = .str z ∧ y = .int n ∧ 2 ≤ n ∧ n ≤ 100 ∧ 1 ≤ z.length ∧ z.length ≤ 100 ∧ Q (.str (repS z n.toNat)) H) := by
  intro pins s σ H x y v u Q I rx ry h
  obtain ⟨z, n, rfl, rfl, h2, h100, z1, z100, q⟩ := h
  obtain ⟨t, rfl⟩ := rx
  obtain ⟨t', rfl⟩ := ry
  have hn1 : ¬ n < 1 := by omega
  have hb : (n == 1 || z.length == 0) = false := by
    have a1 : (n == 1) = false := by
      rw [beq_eq_false_iff_ne]
      omega
    have a2 : (z.length == 0) = false := by
      rw [beq_eq_false_iff_ne]
      omega
    rw [a1, a2]
    rfl
  have e : (⟨(List.replicate n.toNat z.cps).foldl (· ++ ·) #[]⟩ : Str) = repS z n.toNat := by
    refine ext_tl ?_
    show ((List.replicate n.toNat z.cps).foldl (· ++ ·) #[]).toList = (List.replicate n.toNat (tl z)).flatten
    rw [foldl_cps]
    simp
  have hsz : z.length * n.toNat ≤ 10000 := by
    have : z.length * n.toNat ≤ 100 * 100 := Nat.mul_le_mul z100 (by omega)
    omega
  refine PySem.P.mul_str ?_ ?_ ?_ ?_
  · rw [decide_eq_false (by omega), decide_eq_false (by omega)]
    rfl
  · intro _ _
    have d : (2 : Int) ^ 63 - 1 = 9223372036854775807 := by decide
    rw [d]
    have : (100 : Int) ≤ 9223372036854775807 / n := by
      rw [Int.le_ediv_iff_mul_le (by omega)]
      omega
    omega
  · intro _ _
    show Builtin.Str.tooLong _ = false
    unfold Builtin.Str.tooLong
    refine decide_eq_false ?_
    rw [sizeLine_eq]
    omega
  · rw [if_neg hn1, hb]
    rw [e]
    have hl : (repS z n.toNat).length ≤ 10000 := by
      rw [len_tl]
      show ((List.replicate n.toNat (tl z)).flatten).length ≤ 10000
      have key : ∀ n : Nat, ((List.replicate n (tl z)).flatten).length = z.length * n := fun n => by
        induction n with
        | zero => rfl
        | succ n ih =>
          rw [List.replicate_succ, List.flatten_cons, List.length_append, ih, ← len_tl, Nat.mul_succ]
          omega
      rw [key]
      exact hsz
    exact ⟨by rw [sizeLine_eq]; omega, ⟨.str (repS z n.toNat), H, I.tok _, ⟨_, rfl⟩, q⟩⟩
end
end RS
end
section
set_option Elab.async false
set_option linter.all false
set_option maxRecDepth 100000
set_option maxHeartbeats 4000000
/-! T: what the program's top has written, as one structure (printed by mkT.py). -/
namespace RS
open PySem L2 TL Evl

abbrev st_BadLine___init__ : Stmt := inClass (top 3) 0
theorem sc_BadLine___init__ : FnScope ["self", "line", "word"] ["self", "line", "word"] (defScope st_BadLine___init__) := ⟨rfl, rfl, rfl, by decide +kernel, rfl, by decide +kernel, by decide +kernel⟩
abbrev st_is_number : Stmt := top 7
theorem sc_is_number : FnScope ["value", "low", "high"] ["value", "low", "high"] (defScope st_is_number) := ⟨rfl, rfl, rfl, by decide +kernel, rfl, by decide +kernel, by decide +kernel⟩
abbrev st_is_name : Stmt := top 18
theorem sc_is_name : FnScope ["value", "sign"] ["value"] (defScope st_is_name) := ⟨rfl, rfl, rfl, by decide +kernel, rfl, by decide +kernel, by decide +kernel⟩
abbrev st_are_unlike_names : Stmt := top 19
theorem sc_are_unlike_names : FnScope ["value", "least", "most", "name"] ["value", "least", "most"] (defScope st_are_unlike_names) := ⟨rfl, rfl, rfl, by decide +kernel, rfl, by decide +kernel, by decide +kernel⟩
abbrev st_is_sum : Stmt := top 20
theorem sc_is_sum : FnScope ["names", "value", "depth"] ["names", "value", "depth"] (defScope st_is_sum) := ⟨rfl, rfl, rfl, by decide +kernel, rfl, by decide +kernel, by decide +kernel⟩
abbrev st_terms_in : Stmt := top 21
theorem sc_terms_in : FnScope ["value"] ["value"] (defScope st_terms_in) := ⟨rfl, rfl, rfl, by decide +kernel, rfl, by decide +kernel, by decide +kernel⟩
abbrev st_is_whole_sum : Stmt := top 22
theorem sc_is_whole_sum : FnScope ["names", "value"] ["names", "value"] (defScope st_is_whole_sum) := ⟨rfl, rfl, rfl, by decide +kernel, rfl, by decide +kernel, by decide +kernel⟩
abbrev st_is_test : Stmt := top 23
theorem sc_is_test : FnScope ["names", "value"] ["names", "value"] (defScope st_is_test) := ⟨rfl, rfl, rfl, by decide +kernel, rfl, by decide +kernel, by decide +kernel⟩
abbrev st_is_part : Stmt := top 24
theorem sc_is_part : FnScope ["names", "done", "part", "depth", "word", "many"] ["names", "done", "part", "depth"] (defScope st_is_part) := ⟨rfl, rfl, rfl, by decide +kernel, rfl, by decide +kernel, by decide +kernel⟩
abbrev st_is_block : Stmt := top 25
theorem sc_is_block : FnScope ["names", "done", "block", "depth", "part"] ["names", "done", "block", "depth"] (defScope st_is_block) := ⟨rfl, rfl, rfl, by decide +kernel, rfl, by decide +kernel, by decide +kernel⟩
abbrev st_blocks_in : Stmt := top 26
theorem sc_blocks_in : FnScope ["part"] ["part"] (defScope st_blocks_in) := ⟨rfl, rfl, rfl, by decide +kernel, rfl, by decide +kernel, by decide +kernel⟩
abbrev st_parts_in : Stmt := top 27
theorem sc_parts_in : FnScope ["block", "found", "part", "inner"] ["block"] (defScope st_parts_in) := ⟨rfl, rfl, rfl, by decide +kernel, rfl, by decide +kernel, by decide +kernel⟩
abbrev st_need_block_program : Stmt := top 28
theorem sc_need_block_program : FnScope ["program", "names", "procedures", "block", "done", "parts", "procedure"] ["program"] (defScope st_need_block_program) := ⟨rfl, rfl, rfl, by decide +kernel, rfl, by decide +kernel, by decide +kernel⟩
abbrev st_sum_words : Stmt := top 33
theorem sc_sum_words : FnScope ["value", "is_inner", "found"] ["value", "is_inner"] (defScope st_sum_words) := ⟨rfl, rfl, rfl, by decide +kernel, rfl, by decide +kernel, by decide +kernel⟩
abbrev st_test_words : Stmt := top 34
theorem sc_test_words : FnScope ["test"] ["test"] (defScope st_test_words) := ⟨rfl, rfl, rfl, by decide +kernel, rfl, by decide +kernel, by decide +kernel⟩
abbrev st_lines_of : Stmt := top 35
theorem sc_lines_of : FnScope ["block", "found", "part", "other"] ["block"] (defScope st_lines_of) := ⟨rfl, rfl, rfl, by decide +kernel, rfl, by decide +kernel, by decide +kernel⟩
abbrev st_write_blocks : Stmt := top 36
theorem sc_write_blocks : FnScope ["program", "lines", "name", "block", "words"] ["program"] (defScope st_write_blocks) := ⟨rfl, rfl, rfl, by decide +kernel, rfl, by decide +kernel, by decide +kernel⟩
abbrev st_number_in : Stmt := top 37
theorem sc_number_in : FnScope ["word", "least", "most", "figures", "sign"] ["word", "least", "most"] (defScope st_number_in) := ⟨rfl, rfl, rfl, by decide +kernel, rfl, by decide +kernel, by decide +kernel⟩
abbrev st_Sums___init__ : Stmt := inClass (top 38) 0
theorem sc_Sums___init__ : FnScope ["self", "names", "words", "line"] ["self", "names", "words", "line"] (defScope st_Sums___init__) := ⟨rfl, rfl, rfl, by decide +kernel, rfl, by decide +kernel, by decide +kernel⟩
abbrev st_Sums_fail : Stmt := inClass (top 38) 1
theorem sc_Sums_fail : FnScope ["self", "at"] ["self", "at"] (defScope st_Sums_fail) := ⟨rfl, rfl, rfl, by decide +kernel, rfl, by decide +kernel, by decide +kernel⟩
abbrev st_Sums_one : Stmt := inClass (top 38) 2
theorem sc_Sums_one : FnScope ["self", "at", "within", "word", "found", "behind", "number"] ["self", "at", "within"] (defScope st_Sums_one) := ⟨rfl, rfl, rfl, by decide +kernel, rfl, by decide +kernel, by decide +kernel⟩
abbrev st_Sums_whole : Stmt := inClass (top 38) 3
theorem sc_Sums_whole : FnScope ["self", "at", "within", "found", "behind", "other", "after"] ["self", "at", "within"] (defScope st_Sums_whole) := ⟨rfl, rfl, rfl, by decide +kernel, rfl, by decide +kernel, by decide +kernel⟩
abbrev st_deep : Stmt := top 39
theorem sc_deep : FnScope ["value"] ["value"] (defScope st_deep) := ⟨rfl, rfl, rfl, by decide +kernel, rfl, by decide +kernel, by decide +kernel⟩
abbrev st_Open___init__ : Stmt := inClass (top 40) 0
theorem sc_Open___init__ : FnScope ["self", "words", "test"] ["self", "words", "test"] (defScope st_Open___init__) := ⟨rfl, rfl, rfl, by decide +kernel, rfl, by decide +kernel, by decide +kernel⟩
abbrev st_Reader___init__ : Stmt := inClass (top 41) 0
theorem sc_Reader___init__ : FnScope ["self"] ["self"] (defScope st_Reader___init__) := ⟨rfl, rfl, rfl, by decide +kernel, rfl, by decide +kernel, by decide +kernel⟩
abbrev st_Reader_fail : Stmt := inClass (top 41) 1
theorem sc_Reader_fail : FnScope ["self", "line", "word"] ["self", "line", "word"] (defScope st_Reader_fail) := ⟨rfl, rfl, rfl, by decide +kernel, rfl, by decide +kernel, by decide +kernel⟩
abbrev st_Reader_need_size : Stmt := inClass (top 41) 2
theorem sc_Reader_need_size : FnScope ["self", "line", "words", "size"] ["self", "line", "words", "size"] (defScope st_Reader_need_size) := ⟨rfl, rfl, rfl, by decide +kernel, rfl, by decide +kernel, by decide +kernel⟩
abbrev st_Reader_known : Stmt := inClass (top 41) 3
theorem sc_Reader_known : FnScope ["self", "name", "block"] ["self"] (defScope st_Reader_known) := ⟨rfl, rfl, rfl, by decide +kernel, rfl, by decide +kernel, by decide +kernel⟩
abbrev st_Reader_take : Stmt := inClass (top 41) 4
theorem sc_Reader_take : FnScope ["self", "line", "words", "first"] ["self", "line", "words"] (defScope st_Reader_take) := ⟨rfl, rfl, rfl, by decide +kernel, rfl, by decide +kernel, by decide +kernel⟩
abbrev st_Reader_take_names : Stmt := inClass (top 41) 5
theorem sc_Reader_take_names : FnScope ["self", "line", "words", "at", "word"] ["self", "line", "words"] (defScope st_Reader_take_names) := ⟨rfl, rfl, rfl, by decide +kernel, rfl, by decide +kernel, by decide +kernel⟩
abbrev st_Reader_take_procedure : Stmt := inClass (top 41) 6
theorem sc_Reader_take_procedure : FnScope ["self", "line", "words"] ["self", "line", "words"] (defScope st_Reader_take_procedure) := ⟨rfl, rfl, rfl, by decide +kernel, rfl, by decide +kernel, by decide +kernel⟩
abbrev st_Reader_take_turn : Stmt := inClass (top 41) 7
theorem sc_Reader_take_turn : FnScope ["self", "line", "words", "top"] ["self", "line", "words"] (defScope st_Reader_take_turn) := ⟨rfl, rfl, rfl, by decide +kernel, rfl, by decide +kernel, by decide +kernel⟩
abbrev st_Reader_close : Stmt := inClass (top 41) 8
theorem sc_Reader_close : FnScope ["self", "top", "blocks", "block", "word"] ["self"] (defScope st_Reader_close) := ⟨rfl, rfl, rfl, by decide +kernel, rfl, by decide +kernel, by decide +kernel⟩
abbrev st_Reader_depth : Stmt := inClass (top 41) 9
theorem sc_Reader_depth : FnScope ["self"] ["self"] (defScope st_Reader_depth) := ⟨rfl, rfl, rfl, by decide +kernel, rfl, by decide +kernel, by decide +kernel⟩
abbrev st_Reader_take_part : Stmt := inClass (top 41) 10
theorem sc_Reader_take_part : FnScope ["self", "line", "words", "first"] ["self", "line", "words"] (defScope st_Reader_take_part) := ⟨rfl, rfl, rfl, by decide +kernel, rfl, by decide +kernel, by decide +kernel⟩
abbrev st_Reader_small_part : Stmt := inClass (top 41) 11
theorem sc_Reader_small_part : FnScope ["self", "line", "words", "first"] ["self", "line", "words"] (defScope st_Reader_small_part) := ⟨rfl, rfl, rfl, by decide +kernel, rfl, by decide +kernel, by decide +kernel⟩
abbrev st_Reader_sum_to_end : Stmt := inClass (top 41) 12
theorem sc_Reader_sum_to_end : FnScope ["self", "line", "words", "at", "found", "behind"] ["self", "line", "words", "at"] (defScope st_Reader_sum_to_end) := ⟨rfl, rfl, rfl, by decide +kernel, rfl, by decide +kernel, by decide +kernel⟩
abbrev st_Reader_test_of : Stmt := inClass (top 41) 13
theorem sc_Reader_test_of : FnScope ["self", "line", "words", "found", "behind"] ["self", "line", "words"] (defScope st_Reader_test_of) := ⟨rfl, rfl, rfl, by decide +kernel, rfl, by decide +kernel, by decide +kernel⟩
abbrev st_read_blocks : Stmt := top 42
theorem sc_read_blocks : FnScope ["text", "reader", "lines", "at", "line", "words", "word"] ["text"] (defScope st_read_blocks) := ⟨rfl, rfl, rfl, by decide +kernel, rfl, by decide +kernel, by decide +kernel⟩
abbrev st__law_taken : Stmt := top 44
theorem sc__law_taken : FnScope ["_law_row", "_law_many", "_law_found", "_law_cell"] ["_law_row", "_law_many"] (defScope st__law_taken) := ⟨rfl, rfl, rfl, by decide +kernel, rfl, by decide +kernel, by decide +kernel⟩
abbrev st__law_pick : Stmt := top 45
theorem sc__law_pick : FnScope ["_law_row", "_law_things"] ["_law_row", "_law_things"] (defScope st__law_pick) := ⟨rfl, rfl, rfl, by decide +kernel, rfl, by decide +kernel, by decide +kernel⟩
abbrev st__law_sum : Stmt := top 46
theorem sc__law_sum : FnScope ["_law_row", "_law_names", "_law_deep", "_law_way"] ["_law_row", "_law_names", "_law_deep"] (defScope st__law_sum) := ⟨rfl, rfl, rfl, by decide +kernel, rfl, by decide +kernel, by decide +kernel⟩
abbrev st__law_block : Stmt := top 47
theorem sc__law_block : FnScope ["_law_row", "_law_names", "_law_done", "_law_deep", "_law_found", "_law_turn", "_law_way", "_law_inner", "_law_test", "_law_other"] ["_law_row", "_law_names", "_law_done", "_law_deep"] (defScope st__law_block) := ⟨rfl, rfl, rfl, by decide +kernel, rfl, by decide +kernel, by decide +kernel⟩
abbrev st__law_parts : Stmt := top 48
theorem sc__law_parts : FnScope ["_law_block_here", "_law_found", "_law_part", "_law_inner"] ["_law_block_here"] (defScope st__law_parts) := ⟨rfl, rfl, rfl, by decide +kernel, rfl, by decide +kernel, by decide +kernel⟩
abbrev st__law_program : Stmt := top 49
theorem sc__law_program : FnScope ["_law_row", "_law_names", "_law_procedures", "_law_done", "_law_at", "_law_block_here"] ["_law_row"] (defScope st__law_program) := ⟨rfl, rfl, rfl, by decide +kernel, rfl, by decide +kernel, by decide +kernel⟩
abbrev st__law_sum_text : Stmt := top 50
theorem sc__law_sum_text : FnScope ["_law_value", "_law_is_second", "_law_found"] ["_law_value", "_law_is_second"] (defScope st__law_sum_text) := ⟨rfl, rfl, rfl, by decide +kernel, rfl, by decide +kernel, by decide +kernel⟩
abbrev st__law_lines : Stmt := top 51
theorem sc__law_lines : FnScope ["_law_block_here", "_law_found", "_law_part"] ["_law_block_here"] (defScope st__law_lines) := ⟨rfl, rfl, rfl, by decide +kernel, rfl, by decide +kernel, by decide +kernel⟩
abbrev st__law_alike : Stmt := top 52
theorem sc__law_alike : FnScope ["_law_found", "_law_due", "_law_k"] ["_law_found", "_law_due"] (defScope st__law_alike) := ⟨rfl, rfl, rfl, by decide +kernel, rfl, by decide +kernel, by decide +kernel⟩
abbrev st_law : Stmt := top 53
theorem sc_law : FnScope ["_law_script", "_law_row", "_law_program_here", "_law_lines_here", "_law_name", "_law_block_here", "_law_text", "_law_one", "_law_rows", "_law_some", "_law_line", "_law_word", "_law_told", "error", "_law_wrong", "_law_value"] ["_law_script"] (defScope st_law) := ⟨rfl, rfl, rfl, by decide +kernel, rfl, by decide +kernel, by decide +kernel⟩

/-- addresses of the classes and tables -/
structure Ads where
  kept : Addr
  signs : Addr
  signsE : Array DictEntry
  signsN : Nat
  tests : Addr
  testsE : Array DictEntry
  testsN : Nat
  cE : Addr
  cBS : Addr
  cBL : Addr
  cBB : Addr
  cS : Addr
  cO : Addr
  cR : Addr
structure Txt (K : PySem.W.Frag) (mg : Str → Option Value) (w : World) (a : Ads) : Prop where
  b_len : mg "len" = none
  b_isinstance : mg "isinstance" = none
  b_str : mg "str" = none
  b_tuple : mg "tuple" = none
  b_list : mg "list" = none
  b_int : mg "int" = none
  b_set : mg "set" = none
  b_sum : mg "sum" = none
  b_max : mg "max" = none
  b_range : mg "range" = none
  b_enumerate : mg "enumerate" = none
  b_bool : mg "bool" = none
  g_MOST_PLACES : ∃ u, mg "MOST_PLACES" = some u ∧ RelV (.int 5) u
  g_MOST_LETTERS : ∃ u, mg "MOST_LETTERS" = some u ∧ RelV (.int 8) u
  g_MOST_CONSTANT : ∃ u, mg "MOST_CONSTANT" = some u ∧ RelV (.int 1000) u
  g_MOST_DEPTH : ∃ u, mg "MOST_DEPTH" = some u ∧ RelV (.int 6) u
  g_MOST_PARTS : ∃ u, mg "MOST_PARTS" = some u ∧ RelV (.int 60) u
  g_MOST_TERMS : ∃ u, mg "MOST_TERMS" = some u ∧ RelV (.int 24) u
  g_MOST_ROUNDS : ∃ u, mg "MOST_ROUNDS" = some u ∧ RelV (.int 6) u
  g_MOST_PROCEDURES : ∃ u, mg "MOST_PROCEDURES" = some u ∧ RelV (.int 4) u
  g_LETTERS : ∃ u, mg "LETTERS" = some u ∧ RelV (.str "abcdefghijklmnopqrstuvwxyz") u
  g_FIGURES : ∃ u, mg "FIGURES" = some u ∧ RelV (.str "0123456789") u
  g_KEPT_WORDS : ∃ u, mg "KEPT_WORDS" = some u ∧ RelV (.ref a.kept) u
  keptT : ∀ H, SqT K H a.kept (kept.map V.str)
  g_SIGNS : ∃ u, mg "SIGNS" = some u ∧ RelV (.ref a.signs) u
  signs : KDict K w a.signs a.signsE a.signsN
  g_TESTS : ∃ u, mg "TESTS" = some u ∧ RelV (.ref a.tests) u
  tests : KDict K w a.tests a.testsE a.testsN
  signsAt : ∀ z : Str, ∃ r, PySem.W.nsIn K a.signs z = some r ∧ (match sgOf z with | some p => ∃ u, r = some u ∧ RelV (.str (sgn p)) u | none => r = none)
  testsAt : ∀ z : Str, ∃ r, PySem.W.nsIn K a.tests z = some r ∧ (match tsOf z with | some p => ∃ u, r = some u ∧ RelV (.bl p) u | none => r = none)
  d_is_number : DefT K mg "is_number" st_is_number []
  d_is_name : DefT K mg "is_name" st_is_name []
  d_are_unlike_names : DefT K mg "are_unlike_names" st_are_unlike_names []
  d_is_sum : DefT K mg "is_sum" st_is_sum [.int 1]
  d_terms_in : DefT K mg "terms_in" st_terms_in []
  d_is_whole_sum : DefT K mg "is_whole_sum" st_is_whole_sum []
  d_is_test : DefT K mg "is_test" st_is_test []
  d_is_part : DefT K mg "is_part" st_is_part []
  d_is_block : DefT K mg "is_block" st_is_block []
  d_blocks_in : DefT K mg "blocks_in" st_blocks_in []
  d_parts_in : DefT K mg "parts_in" st_parts_in []
  d_need_block_program : DefT K mg "need_block_program" st_need_block_program []
  d_sum_words : DefT K mg "sum_words" st_sum_words [.bl false]
  d_test_words : DefT K mg "test_words" st_test_words []
  d_lines_of : DefT K mg "lines_of" st_lines_of []
  d_write_blocks : DefT K mg "write_blocks" st_write_blocks []
  d_number_in : DefT K mg "number_in" st_number_in []
  m_Sums___init__ : MetT K a.cS "__init__" "Sums.__init__" st_Sums___init__ []
  m_Sums_fail : MetT K a.cS "fail" "Sums.fail" st_Sums_fail []
  m_Sums_one : MetT K a.cS "one" "Sums.one" st_Sums_one []
  m_Sums_whole : MetT K a.cS "whole" "Sums.whole" st_Sums_whole []
  d_deep : DefT K mg "deep" st_deep []
  m_Open___init__ : MetT K a.cO "__init__" "Open.__init__" st_Open___init__ [.non]
  m_Reader___init__ : MetT K a.cR "__init__" "Reader.__init__" st_Reader___init__ []
  m_Reader_fail : MetT K a.cR "fail" "Reader.fail" st_Reader_fail []
  m_Reader_need_size : MetT K a.cR "need_size" "Reader.need_size" st_Reader_need_size []
  m_Reader_known : MetT K a.cR "known" "Reader.known" st_Reader_known []
  m_Reader_take : MetT K a.cR "take" "Reader.take" st_Reader_take []
  m_Reader_take_names : MetT K a.cR "take_names" "Reader.take_names" st_Reader_take_names []
  m_Reader_take_procedure : MetT K a.cR "take_procedure" "Reader.take_procedure" st_Reader_take_procedure []
  m_Reader_take_turn : MetT K a.cR "take_turn" "Reader.take_turn" st_Reader_take_turn []
  m_Reader_close : MetT K a.cR "close" "Reader.close" st_Reader_close []
  m_Reader_depth : MetT K a.cR "depth" "Reader.depth" st_Reader_depth []
  m_Reader_take_part : MetT K a.cR "take_part" "Reader.take_part" st_Reader_take_part []
  m_Reader_small_part : MetT K a.cR "small_part" "Reader.small_part" st_Reader_small_part []
  m_Reader_sum_to_end : MetT K a.cR "sum_to_end" "Reader.sum_to_end" st_Reader_sum_to_end []
  m_Reader_test_of : MetT K a.cR "test_of" "Reader.test_of" st_Reader_test_of []
  d_read_blocks : DefT K mg "read_blocks" st_read_blocks []
  d__law_taken : DefT K mg "_law_taken" st__law_taken []
  d__law_pick : DefT K mg "_law_pick" st__law_pick []
  d__law_sum : DefT K mg "_law_sum" st__law_sum []
  d__law_block : DefT K mg "_law_block" st__law_block []
  d__law_parts : DefT K mg "_law_parts" st__law_parts []
  d__law_program : DefT K mg "_law_program" st__law_program []
  d__law_sum_text : DefT K mg "_law_sum_text" st__law_sum_text []
  d__law_lines : DefT K mg "_law_lines" st__law_lines []
  d__law_alike : DefT K mg "_law_alike" st__law_alike []
  d_law : DefT K mg "law" st_law []
  cl_Sums : Cls K a.cS
  mk_Sums : PySem.W.makesIn K a.cS = true
  kp_Sums : PySem.W.keepIn K (.ref a.cS) = true
  c_Sums : mg "Sums" = some (.ref a.cS)
  n_Sums_names : NoAttr K a.cS "names"
  n_Sums_words : NoAttr K a.cS "words"
  n_Sums_line : NoAttr K a.cS "line"
  cl_Open : Cls K a.cO
  mk_Open : PySem.W.makesIn K a.cO = true
  kp_Open : PySem.W.keepIn K (.ref a.cO) = true
  c_Open : mg "Open" = some (.ref a.cO)
  n_Open_words : NoAttr K a.cO "words"
  n_Open_test : NoAttr K a.cO "test"
  n_Open_blocks : NoAttr K a.cO "blocks"
  cl_Reader : Cls K a.cR
  mk_Reader : PySem.W.makesIn K a.cR = true
  kp_Reader : PySem.W.keepIn K (.ref a.cR) = true
  c_Reader : mg "Reader" = some (.ref a.cR)
  n_Reader_names : NoAttr K a.cR "names"
  n_Reader_procedures : NoAttr K a.cR "procedures"
  n_Reader_tower : NoAttr K a.cR "tower"
  n_Reader_parts : NoAttr K a.cR "parts"
  n_Reader_has_begun : NoAttr K a.cR "has_begun"
  c_ShelfError : ∃ u, mg "ShelfError" = some u ∧ RelV (.ref a.cE) u
  c_BadString : ∃ u, mg "BadString" = some u ∧ RelV (.ref a.cBS) u
  c_BadLine : ∃ u, mg "BadLine" = some u ∧ RelV (.ref a.cBL) u
  c_BadBlock : ∃ u, mg "BadBlock" = some u ∧ RelV (.ref a.cBB) u
  x_BadLine : OexC K a.cBL
  i_BadLine : ∃ fI fd, FunD K "__init__" "BadLine.__init__" (defArgs st_BadLine___init__) (defBody st_BadLine___init__) (defScope st_BadLine___init__) [] [] fI fd ∧ PySem.W.findIn K (.ref a.cBL) "__init__" = some (some (.ref fI)) ∧ PySem.W.typeIn K (.ref fI) = some (.type "function")
  f_BadLine_line : PySem.W.findIn K (.ref a.cBL) "line" = some none
  f_BadLine_word : PySem.W.findIn K (.ref a.cBL) "word" = some none
  xf_BadLine : XfC K a.cBL
  xc_BadLine : ExcC K a.cBL
  xc_BadString : ExcC K a.cBS
  in_BadString : PySem.W.excIn K a.cBS PySem.HandSPX.veTail "ValueError.__new__" = true
  ty_BadString : PySem.W.typeIn K (.ref a.cBS) = some (.type "type")
  kp_BadString : PySem.W.keepIn K (.ref a.cBS) = true
  sb_ShelfError : PySem.W.subIn K (.ref a.cE) (.type "BaseException") = some true
  hd_ShelfError : PySem.W.hasDictIn K a.cE = true
  ty_ShelfError : PySem.W.typeIn K (.ref a.cE) = some (.type "type")
  sb_BadLine : PySem.W.subIn K (.ref a.cBL) (.ref a.cE) = some true
  sb_BadString : PySem.W.subIn K (.ref a.cBS) (.ref a.cE) = some true
  ko_BadLine : PySem.W.kitOne K (.ref a.cBL) (.ref a.cBL) = some true
  ko_BadString : PySem.W.kitOne K (.ref a.cBS) (.ref a.cBS) = some true
end RS
end
section
set_option Elab.async false
set_option linter.all false
set_option maxRecDepth 100000
set_option maxHeartbeats 4000000
/-! E0: what a reading evaluates to: more rules. -/
namespace RS
open PySem L2 TL Evl

section
variable {K : PySem.W.Frag} {σ : L2.St} {H : Hp} {ta tb tc te : TE} {x y z v : V} {r r' : R2} {t u : TT} {D : Ends}
/-! ### comparison of data -/
def rEqM (K : PySem.W.Frag) : R2 := fun x y H Q => ∃ d e, Dp K H x d ∧ Dp K H y e ∧ d.canLay0 = true ∧ e.canLay0 = true ∧ min d.depth e.depth ≤ 60 ∧ Q (.bl (PyData.eqv d e)) H
def rNeM (K : PySem.W.Frag) : R2 := fun x y H Q => ∃ d e, Dp K H x d ∧ Dp K H y e ∧ d.canLay0 = true ∧ e.canLay0 = true ∧ min d.depth e.depth ≤ 60 ∧ Q (.bl (!PyData.eqv d e)) H
theorem op_eqM {X : Cx} (hu : X.A.units + 64 < cLine) : OpR X (compareOp .Eq) (rEqM X.K) := by
  intro pins s σ H x y v u Q I rx ry h
  obtain ⟨d, e, hd, he, sd, se, m, q⟩ := h
  obtain ⟨as, r1⟩ := Dp.reads I d x v hd rx
  obtain ⟨bs, r2⟩ := Dp.reads I e y u he ry
  exact SeqAt.compareEq_reads r1 r2 sd se (by omega) ⟨.bl _, H, I, rfl, q⟩
theorem op_neM {X : Cx} (hu : X.A.units + 64 < cLine) : OpR X (compareOp .NotEq) (rNeM X.K) := by
  intro pins s σ H x y v u Q I rx ry h
  obtain ⟨d, e, hd, he, sd, se, m, q⟩ := h
  obtain ⟨as, r1⟩ := Dp.reads I d x v hd rx
  obtain ⟨bs, r2⟩ := Dp.reads I e y u he ry
  exact SeqAt.compareNe_reads r1 r2 sd se (by omega) ⟨.bl _, H, I, rfl, q⟩
theorem Dp.strs {H : Hp} : ∀ l : List Str, DpAll K H (l.map V.str) (l.map PyData.str)
  | [] => .nil
  | x :: l => .cons (.str x) (Dp.strs l)
theorem can_nil : (PyData.list []).canLay0 = true := by decide +kernel
theorem canAll_strs : ∀ {l : List Str}, (∀ x ∈ l, ∀ c ∈ tl x, c < 1114112) → PyData.canLayAll0 (l.map PyData.str) = true
  | [], _ => by rw [List.map_nil, PyData.canLayAll0]
  | x :: l, h => by
    have h1 : PyData.strOk x = true := by
      unfold PyData.strOk
      rw [← Array.all_toList, List.all_eq_true]
      intro c hc
      exact decide_eq_true (h x List.mem_cons_self c hc)
    rw [List.map_cons, PyData.canLayAll0, PyData.canLay0, h1, canAll_strs fun y hy => h y (List.mem_cons_of_mem _ hy)]
    rfl
theorem canL_strs {l : List Str} (h : ∀ x ∈ l, ∀ c ∈ tl x, c < 1114112) : (PyData.list (l.map PyData.str)).canLay0 = true := by
  rw [PyData.canLay0]
  exact canAll_strs h
theorem eqv_lnil (l : List PyData) : PyData.eqv (.list l) (.list []) = l.isEmpty := by
  cases l with
  | nil => decide +kernel
  | cons a r =>
    rw [PyData.eqv, PyData.eqvAll]
    rfl
theorem min_lnil (d : PyData) : min d.depth (PyData.list []).depth ≤ 60 := by
  have h : (PyData.list []).depth = 1 := by decide +kernel
  rw [h]
  omega
/-- xs == [], xs a new list of texts -/
theorem ev_eqNil {l : List Str} (ha : EvL ta σ H (l.map V.str)) (hl : ∀ x ∈ l, ∀ c ∈ tl x, c < 1114112) : Ev (tOp (rEqM K) ta (tLst tNil)) σ H (.bl l.isEmpty) :=
  ev_opLL ha (el_lst ea_nil (Nat.zero_le _)) fun p q H1 hp hq _ H2 e2 Q k => ⟨.list (l.map PyData.str), .list [], .lst (sq_of (e2 _ _ hp)) (Dp.strs l), .lst (sq_of (e2 _ _ hq)) .nil, canL_strs hl, can_nil, min_lnil _, by
    have h : (l.map PyData.str).isEmpty = l.isEmpty := by cases l <;> rfl
    rw [eqv_lnil, h]
    exact k H2 (Ex.refl H2)⟩
theorem ev_neNil {l : List Str} (ha : EvL ta σ H (l.map V.str)) (hl : ∀ x ∈ l, ∀ c ∈ tl x, c < 1114112) : Ev (tOp (rNeM K) ta (tLst tNil)) σ H (.bl (!l.isEmpty)) :=
  ev_opLL ha (el_lst ea_nil (Nat.zero_le _)) fun p q H1 hp hq _ H2 e2 Q k => ⟨.list (l.map PyData.str), .list [], .lst (sq_of (e2 _ _ hp)) (Dp.strs l), .lst (sq_of (e2 _ _ hq)) .nil, canL_strs hl, can_nil, min_lnil _, by
    have h : (l.map PyData.str).isEmpty = l.isEmpty := by cases l <;> rfl
    rw [eqv_lnil, h]
    exact k H2 (Ex.refl H2)⟩
/-- a new list that is empty -/
theorem ev_eqNil0 (ha : EvL ta σ H []) : Ev (tOp (rEqM K) ta (tLst tNil)) σ H (.bl true) := ev_eqNil (l := []) ha (by simp)

/-! ### isinstance -/
theorem ev_isi {m n : String} {b : Bool} (ha : Ev ta σ H x) (hb : Ev tb σ H (.ty n)) (ty : ∀ H1, Ex H H1 → TyX K H1 x (.type m)) (hk : kitB m n = some b) : Ev (tCB (rIsi K) (tCons ta (tCons tb tNil))) σ H (.bl b) :=
  ev_cb (ea_cons ha (ea_cons hb ea_nil)) fun H1 e Q q => ⟨x, .ty n, .type m, .type n, b, rfl, .ty n, ty H1 e, kit_ty hk, q H1 (Ex.refl H1)⟩
theorem ty_int {H1 : Hp} {i : Int} : TyX K H1 (.int i) (.type "int") := .base (.int i)
theorem ty_str {H1 : Hp} {z : Str} : TyX K H1 (.str z) (.type "str") := .base (.str z)
theorem ty_bl {H1 : Hp} {b : Bool} : TyX K H1 (.bl b) (.type "bool") := .base (.bl b)
theorem ty_non {H1 : Hp} : TyX K H1 .non (.type "NoneType") := .base .non
theorem ty_tup {H1 : Hp} {a : Addr} {xs : List V} (h : H1 a = some (.tup xs)) : TyX K H1 (.ref a) (.type "tuple") := .base (.tup h)
theorem ty_lst {H1 : Hp} {a : Addr} {xs : List V} (h : H1 a = some (.lst xs)) : TyX K H1 (.ref a) (.type "list") := .base (.lst h)
theorem k_int_int : kitB "int" "int" = some true := by decide +kernel
theorem k_int_bool : kitB "int" "bool" = some false := by decide +kernel
theorem k_int_str : kitB "int" "str" = some false := by decide +kernel
theorem k_int_tuple : kitB "int" "tuple" = some false := by decide +kernel
theorem k_str_str : kitB "str" "str" = some true := by decide +kernel
theorem k_str_tuple : kitB "str" "tuple" = some false := by decide +kernel
theorem k_str_int : kitB "str" "int" = some false := by decide +kernel
theorem k_tuple_str : kitB "tuple" "str" = some false := by decide +kernel
theorem k_tuple_tuple : kitB "tuple" "tuple" = some true := by decide +kernel
theorem k_tuple_int : kitB "tuple" "int" = some false := by decide +kernel
theorem k_bool_bool : kitB "bool" "bool" = some true := by decide +kernel
theorem k_bool_int : kitB "bool" "int" = some true := by decide +kernel
theorem k_bool_str : kitB "bool" "str" = some false := by decide +kernel
theorem k_bool_tuple : kitB "bool" "tuple" = some false := by decide +kernel

/-! ### more -/
theorem ev_chain {a b : Bool} (hx : Ev ta σ H x) (hy : Ev tb σ H y) (h1 : RV r x y H (.bl a)) (h2 : a = true → ∃ z, Ev tc σ H z ∧ RV r' y z H (.bl b)) : Ev (tChain r r' ta tb tc) σ H (.bl (a && b)) := fun H1 e Q q =>
  hx H1 e _ fun H2 e2 => hy H2 (e.trans e2) _ fun H3 e3 => h1 H3 ((e.trans e2).trans e3) _ fun H4 e4 => ⟨a, rfl, by
    cases a with
    | true =>
      obtain ⟨z, hz, h3⟩ := h2 rfl
      rw [if_pos rfl]
      refine hz H4 (((e.trans e2).trans e3).trans e4) _ fun H5 e5 => ?_
      exact h3 H5 ((((e.trans e2).trans e3).trans e4).trans e5) Q fun H6 e6 => q H6 ((((e2.trans e3).trans e4).trans e5).trans e6)
    | false =>
      rw [if_neg Bool.false_ne_true]
      exact q H4 ((e2.trans e3).trans e4)⟩
theorem ev_lenT {p : Addr} {xs : List V} (ha : Ev ta σ H (.ref p)) (h : SqT K H p xs) : Ev (tCB (rLenS K) (tCons ta tNil)) σ H (.int (xs.length : Int)) := fun H1 e Q q =>
  ha H1 e _ fun H2 e2 => ⟨p, xs, rfl, Or.inr (ex_t (e.trans e2) h), q H2 e2⟩
def rLenStr : List V → Hp → VK → Prop := fun xs H Q => ∃ z, xs = [.str z] ∧ z.length ≤ sizeLine ∧ Q (.int z.length) H
theorem ev_lenStr {z : Str} (ha : Ev ta σ H (.str z)) (hz : z.length ≤ 100000) : Ev (tCB rLenStr (tCons ta tNil)) σ H (.int (z.length : Int)) :=
  ev_cb (ea_cons ha ea_nil) fun H1 e Q q => ⟨z, rfl, sz_of hz, q H1 (Ex.refl H1)⟩
theorem flat_strs' (l : List Str) : (l.map V.str).all flatV = true := by
  rw [List.all_map]
  exact List.all_eq_true.mpr fun _ _ => rfl
theorem inV_strs (x : Str) (l : List Str) : inV (.str x) (l.map V.str) = decide (x ∈ l) := by
  unfold inV
  rw [List.any_map]
  induction l with
  | nil => simp
  | cons y r ih =>
    rw [List.any_cons, ih]
    have e : ((fun z => eqV z (.str x)) ∘ V.str) y = (y == x) := rfl
    rw [e]
    by_cases h : y = x
    · subst h
      simp
    · have h2 : (y == x) = false := by simpa using h
      have h3 : ¬ x = y := fun q => h q.symm
      rw [h2, Bool.false_or]
      simp [h3]
/-- x in a tuple of texts -/
theorem rv_inTs {p : Addr} {l : List Str} {z : Str} (h : SqT K H p (l.map V.str)) : RV (rIn K false) (.str z) (.ref p) H (.bl (decide (z ∈ l))) := by
  rw [← inV_strs]
  exact rv_isT h rfl (flat_strs' l)
theorem rv_niTs {p : Addr} {l : List Str} {z : Str} (h : SqT K H p (l.map V.str)) : RV (rIn K true) (.str z) (.ref p) H (.bl (!decide (z ∈ l))) := by
  rw [← inV_strs]
  exact rv_niT h rfl (flat_strs' l)
theorem rv_inLs {p : Addr} {l : List Str} {z : Str} (h : SqL K H p (l.map V.str)) : RV (rIn K false) (.str z) (.ref p) H (.bl (decide (z ∈ l))) := by
  rw [← inV_strs]
  exact rv_isL h rfl (flat_strs' l)
theorem rv_niLs {p : Addr} {l : List Str} {z : Str} (h : SqL K H p (l.map V.str)) : RV (rIn K true) (.str z) (.ref p) H (.bl (!decide (z ∈ l))) := by
  rw [← inV_strs]
  exact rv_niL h rfl (flat_strs' l)
/-- x in (a, b, ..), texts written -/
theorem ev_inUs {l : List Str} {z : Str} {tA : TA} (ha : Ev ta σ H (.str z)) (hb : EvA tA σ H (l.map V.str)) (hl : l.length ≤ 1000) : Ev (tOp (rIn K false) ta (tTup tA)) σ H (.bl (decide (z ∈ l))) := by
  rw [← inV_strs]
  exact ev_inU ha (eu_tup hb (by rw [List.length_map]; omega)) rfl (flat_strs' l)
theorem ev_niUs {l : List Str} {z : Str} {tA : TA} (ha : Ev ta σ H (.str z)) (hb : EvA tA σ H (l.map V.str)) (hl : l.length ≤ 1000) : Ev (tOp (rIn K true) ta (tTup tA)) σ H (.bl (!decide (z ∈ l))) := by
  rw [← inV_strs]
  exact ev_niU ha (eu_tup hb (by rw [List.length_map]; omega)) rfl (flat_strs' l)
/-- one sign in a text -/
theorem rv_inSg {c : Nat} {w : Str} : RV (fun x y H Q => ∃ (c : Nat) (z : Str), x = .str ⟨#[c]⟩ ∧ y = .str z ∧ Q (.bl (decide (c ∈ z.cps.toList))) H) (.str ⟨#[c]⟩) (.str w) H (.bl (decide (c ∈ tl w))) := fun H1 _ _ q => ⟨c, w, rfl, rfl, q H1 (Ex.refl H1)⟩
theorem rv_niSg {c : Nat} {w : Str} : RV (fun x y H Q => ∃ (c : Nat) (z : Str), x = .str ⟨#[c]⟩ ∧ y = .str z ∧ Q (.bl (!decide (c ∈ z.cps.toList))) H) (.str ⟨#[c]⟩) (.str w) H (.bl (!decide (c ∈ tl w))) := fun H1 _ _ q => ⟨c, w, rfl, rfl, q H1 (Ex.refl H1)⟩
/-! ### comprehensions over texts and tuples -/
theorem lc_str {z : Str} {g : TG} {tt : TT} {te : TE} {vs : List Nat} {σ : L2.St} {H1 : Hp} {D : Addr} {Qd : Hp → Prop} (Pv : Nat → Hp → Prop) (h0 : Pv 0 (upd H1 D (.lst [])))
    (hs : ∀ i c H, (tl z)[i]? = some c → Pv i H → g (.str ⟨#[c]⟩) (wipe σ vs) H fun σ2 H2 => wipe σ2 vs = wipe σ vs ∧ tt σ2 H2 fun b H3 =>
      if b = true then te σ2 H3 fun y H4 => ∃ acc, H4 D = some (.lst acc) ∧ acc.length < sizeLine ∧ Pv (i + 1) (upd H4 D (.lst (acc ++ [y]))) else Pv (i + 1) H3) (hd : ∀ H, Pv (tl z).length H → Qd H) :
    ∃ W : Nat → Nat → Hp → Prop, (∃ m, W 0 m (upd H1 D (.lst []))) ∧ ∀ i m H, W i m H →
      ((Its z).stop i H ∧ Qd H) ∨ ((Its z).go i H ∧ ∃ Nx : Hp → Prop, (∀ H', Nx H' → ∃ m', m' < m ∧ W (i + 1) m' H') ∧ ∀ x H', (Its z).yld i H x H' → g x (wipe σ vs) H' fun σ2 H2 => wipe σ2 vs = wipe σ vs ∧ tt σ2 H2 fun b H3 =>
        if b = true then te σ2 H3 fun y H4 => ∃ acc, H4 D = some (.lst acc) ∧ acc.length < sizeLine ∧ Nx (upd H4 D (.lst (acc ++ [y]))) else Nx H3) := by
  have sz : (tl z).length = z.cps.size := Array.length_toList
  refine ⟨fun i m H => m = (tl z).length - i ∧ i ≤ (tl z).length ∧ Pv i H, ⟨(tl z).length, by simp, Nat.zero_le _, h0⟩, ?_⟩
  rintro i m H ⟨rfl, hi, p⟩
  by_cases hlt : i < (tl z).length
  · refine .inr ⟨by show i < z.cps.size; omega, Pv (i + 1), fun H' p' => ⟨(tl z).length - (i + 1), by omega, rfl, hlt, p'⟩, fun x H' y => ?_⟩
    obtain ⟨e, c, hc, ex⟩ := y
    subst e ex
    exact hs i c _ (by rw [← hc]; exact Array.getElem?_toList) p
  · have e : i = (tl z).length := by omega
    subst e
    exact .inl ⟨by show z.cps.size ≤ _; omega, hd H p⟩
/-- [c for c in z if f c]: the signs that pass -/
theorem el_lcS {z : Str} {tl' : TE} {j : Nat} {vs : List Nat} (f : Nat → Bool) (v : Nat → V) (h : Ev tl' σ H (.str z)) (hz : (tl z).length ≤ 40000) (hw : ∀ x, wipe ((wipe σ vs).set j (some x)) vs = wipe σ vs)
    (ht : ∀ (i : Nat) (c : Nat) H1, Ex H H1 → (tl z)[i]? = some c → EvT t ((wipe σ vs).set j (some (.str ⟨#[c]⟩))) H1 (f i)) (he : ∀ (i : Nat) (c : Nat) H1, Ex H H1 → (tl z)[i]? = some c → f i = true → Ev te ((wipe σ vs).set j (some (.str ⟨#[c]⟩))) H1 (v i)) :
    EvL (tLc (iStr tl') (gName j) t te vs) σ H (given (tl z).length f v) := fun H0 e Q q => h H0 e _ fun H1 e1 => ⟨z, rfl, fun Dl hD =>
  lc_str (z := z) (Cw H1 f v Dl) ⟨hD, Ex.new hD, upd_same⟩ (fun i c H' hi p => ⟨hw _, cw_turn p (by have := (List.getElem?_eq_some_iff.mp hi).1; omega) (ht i c H1 (e.trans e1) hi) (fun hf => he i c H1 (e.trans e1) hi hf)⟩)
    (fun H' p => q Dl H' (fresh_back e1 p.1) (e1.trans p.2.1) p.2.2)⟩
theorem el_lcT {a : Addr} {xs : List V} {tl' : TE} {j : Nat} {vs : List Nat} (f : Nat → Bool) (v : Nat → V) (h : Ev tl' σ H (.ref a)) (hx : SqT K H a xs) (hz : xs.length ≤ 40000) (hw : ∀ x, wipe ((wipe σ vs).set j (some x)) vs = wipe σ vs)
    (ht : ∀ (i : Nat) (x : V) H1, Ex H H1 → xs[i]? = some x → EvT t ((wipe σ vs).set j (some x)) H1 (f i)) (he : ∀ (i : Nat) (x : V) H1, Ex H H1 → xs[i]? = some x → f i = true → Ev te ((wipe σ vs).set j (some x)) H1 (v i)) :
    EvL (tLc (iTup K tl') (gName j) t te vs) σ H (given xs.length f v) := fun H0 e Q q => h H0 e _ fun H1 e1 => ⟨a, rfl, ⟨xs, ex_t (e.trans e1) hx⟩, fun Dl hD =>
  lc_tup (xs := xs) (Cw H1 f v Dl) ⟨hD, Ex.new hD, upd_same⟩ (fun i H' _ p => ex_t ((e.trans e1).trans p.2.1) hx) (fun i x H' hi p => ⟨hw x, cw_turn p (by have := (List.getElem?_eq_some_iff.mp hi).1; omega) (ht i x H1 (e.trans e1) hi) (fun hf => he i x H1 (e.trans e1) hi hf)⟩)
    (fun H' p => q Dl H' (fresh_back e1 p.1) (e1.trans p.2.1) p.2.2)⟩
theorem given_none {n : Nat} {f : Nat → Bool} {v : Nat → V} (h : ∀ i, i < n → f i = false) : given n f v = [] := by
  induction n with
  | zero => rfl
  | succ n ih =>
    rw [given_no (h n (Nat.lt_succ_self n)), ih fun i hi => h i (Nat.lt_succ_of_lt hi)]
end
end RS
end
section
set_option Elab.async false
set_option linter.all false
set_option maxRecDepth 100000
set_option maxHeartbeats 4000000
/-! W1: numbers, names, sums. -/
namespace RS
open PySem L2 TL Evl

/-! ### promises -/
def spIsNumber : Sp := fun vs H Q _ => ∃ i lo hi : Int, vs = [.int i, .int lo, .int hi] ∧ lo ≤ i ∧ i ≤ hi ∧ RetV (.bl true) H Q
def asc (x : Str) : Prop := ∀ c ∈ tl x, c < 128
def spIsName : Sp := fun vs H Q _ => ∃ x : Str, vs = [.str x] ∧ x.length ≤ 40000 ∧ asc x ∧ RetV (.bl (isName x)) H Q
def spIsSum (n : Nat) : Sp := fun vs H Q _ => ∃ (na : Addr) (names : List Str) (v : V) (s : Sm) (d : Int), vs = [.ref na, v, .int d] ∧ H na = some (.tup (names.map V.str)) ∧ Td H (eS s) v ∧ okSm names s ∧ 1 ≤ d ∧ d + deep s ≤ 7 ∧ deep s < n ∧ RetV (.bl true) H Q
def spTerms (n : Nat) : Sp := fun vs H Q _ => ∃ (v : V) (s : Sm), vs = [v] ∧ Td H (eS s) v ∧ deep s < n ∧ RetV (.int (terms s)) H Q
def spIsWholeSum : Sp := fun vs H Q _ => ∃ (na : Addr) (names : List Str) (v : V) (s : Sm), vs = [.ref na, v] ∧ H na = some (.tup (names.map V.str)) ∧ Td H (eS s) v ∧ okS names s ∧ RetV (.bl true) H Q
def spIsTest : Sp := fun vs H Q _ => ∃ (na : Addr) (names : List Str) (v : V) (s : Sm) (z : Bool), vs = [.ref na, v] ∧ H na = some (.tup (names.map V.str)) ∧ Td H (eT s z) v ∧ okS names s ∧ RetV (.bl true) H Q

/-! ### of texts -/
theorem tl_letters : tl ("abcdefghijklmnopqrstuvwxyz" : Str) = letters := by decide +kernel
theorem tl_figures : tl ("0123456789" : Str) = figures := by decide +kernel
/-- the signs that pass, as texts -/
def signsOf (z : Str) (f : Nat → Bool) : List Str := ((tl z).filter f).map fun c => (⟨#[c]⟩ : Str)
theorem given_signs (z : Str) (f : Nat → Bool) : given (tl z).length (fun i => f ((tl z).getD i 0)) (fun i => .str ⟨#[(tl z).getD i 0]⟩) = (signsOf z f).map V.str := by
  unfold given signsOf
  rw [List.map_map]
  generalize tl z = l
  have key : ∀ n, n ≤ l.length → ((List.range n).filter fun i => f (l.getD i 0)).map (fun i => V.str ⟨#[l.getD i 0]⟩) = ((l.take n).filter f).map fun c => V.str ⟨#[c]⟩ := fun n => by
    induction n with
    | zero => intro _; rfl
    | succ n ih =>
      intro hn
      have hlt : n < l.length := hn
      have e1 : l.getD n 0 = l[n] := by rw [List.getD_eq_getElem?_getD, List.getElem?_eq_getElem hlt] <;> rfl
      rw [List.range_succ, List.filter_append, List.map_append, ih (Nat.le_of_lt hn), List.take_add_one, List.getElem?_eq_getElem hlt, List.filter_append, List.map_append, List.filter_cons, e1]
      show _ ++ _ = _ ++ List.map _ (List.filter f [l[n]])
      rw [List.filter_cons]
      split
      · show _ ++ [V.str ⟨#[l.getD n 0]⟩] = _
        rw [e1]
        rfl
      · rfl
  have e := key l.length (Nat.le_refl _)
  rw [List.take_length] at e
  exact e
theorem asc_signs {z : Str} {f : Nat → Bool} (h : asc z) : ∀ x ∈ signsOf z f, ∀ c ∈ tl x, c < 1114112 := by
  intro x hx c hc
  obtain ⟨d, hd, e⟩ := List.mem_map.mp hx
  subst e
  have e2 : c = d := List.mem_singleton.mp hc
  subst e2
  have := h _ (List.mem_filter.mp hd).1
  omega
theorem signs_empty (z : Str) (f : Nat → Bool) : (signsOf z fun c => !f c).isEmpty = (tl z).all f := by
  unfold signsOf
  generalize tl z = l
  induction l with
  | nil => rfl
  | cons c r ih =>
    rw [List.filter_cons, List.all_cons]
    cases h : f c with
    | true =>
      rw [if_neg (by simp)]
      rw [ih, Bool.true_and]
    | false =>
      rw [if_pos (by simp)]
      rfl
theorem getD_of {l : List Nat} {i c : Nat} (h : l[i]? = some c) : l.getD i 0 = c := by
  rw [List.getD_eq_getElem?_getD, h]
  rfl

section
variable {P : Program} {w : World} {K : PySem.W.Frag} {mg : Str → Option Value} {base : Heap} {a : Ads}
theorem c_is_number (T : Txt K mg w a) : CalG CX0 P w K mg base 1 "is_number" spIsNumber [] := by
  obtain ⟨f, fd, D, hm⟩ := T.d_is_number
  refine ⟨f, fd, _, _, D.ok sc_is_number (fun vs H Q E h => ?_) (fun cdv A outer s H vs Q E hr h => ⟨_, PSs.nox ((pss_one (ps_ret (pe_and (pe_callB call_isi (by rfl) T.b_isinstance (by decide +kernel) (pa_cons (pv 0) (pa_cons (pe_bltn (by rfl) T.b_int (by decide +kernel) (show RelV (.ty "int") (.type "int") from rfl)) pa_nil))) (pe_and (pe_not (pe_callB call_isi (by rfl) T.b_isinstance (by decide +kernel) (pa_cons (pv 0) (pa_cons (pe_bltn (by rfl) T.b_bool (by decide +kernel) (show RelV (.ty "bool") (.type "bool") from rfl)) pa_nil)))) (pe_one (pe_chain op_le op_le (pv 1) (pv 0) (pv 2)))))))), ?_⟩), hm, D.kp, D.bindsN (fun _ _ _ _ _ _ us hl => match us, hl with | [_, _, _], _ => rfl), .nil⟩
  · obtain ⟨i, lo, hi, rfl, _⟩ := h
    rfl
  · obtain ⟨i, lo, hi, rfl, h1, h2, k⟩ := h
    refine s_ret (v := .bl true) ?_ k
    refine ev_is (ev_andV (ev_isi (ev_var rfl) ev_c (fun _ _ => ty_int) k_int_int) fun _ => ev_andV (ev_notV (ev_isi (ev_var rfl) ev_c (fun _ _ => ty_int) k_int_bool)) fun _ =>
      ev_chain (a := decide (lo ≤ i)) (b := decide (i ≤ hi)) (ev_var rfl) (ev_var rfl) rv_I0 fun _ => ⟨_, ev_var rfl, rv_I0⟩) ?_
    rw [decide_eq_true h1, decide_eq_true h2]
    rfl
theorem c_is_name (T : Txt K mg w a) : CalG CX0 P w K mg base 1 "is_name" spIsName [] := by
  obtain ⟨f, fd, D, hm⟩ := T.d_is_name
  refine ⟨f, fd, _, _, D.ok sc_is_name (fun vs H Q E h => ?_) (fun cdv A outer s H vs Q E hr h => ⟨_, PSs.nox ((pss_cons (ps_if (PW.pt (pw_or (pt_not (pt_val (pe_callB call_isi (by rfl) T.b_isinstance (by decide +kernel) (pa_cons (pv 0) (pa_cons (pe_bltn (by rfl) T.b_str (by decide +kernel) (show RelV (.ty "str") (.type "str") from rfl)) pa_nil))))) (pw_or (pt_not (pt_chain op_le op_le pe_int (pe_callB call_len_str (by rfl) T.b_len (by decide +kernel) (pa_cons (pv 0) pa_nil)) (C8.pe_gc (by rfl) T.g_MOST_LETTERS))) (pw_or1 (pt_cmpR op_in_seq (pv 0) (C8.pe_gc (by rfl) T.g_KEPT_WORDS) (by rfl)))))) (pss_one (ps_ret pe_bl)) pss_nil)
      (pss_one (ps_ret (pe_cmpR (op_eqM hr.units) (pe_lc (own := [("sign", 1)]) rfl sc_is_name.nd (pi_str (pv 0)) (blkOk_by (N := ["value", "sign"]) (sc := defScope st_is_name) (by decide +kernel)) (fun _ _ _ _ _ => (pg_name (i := 1) sc_is_name.nd rfl (Or.inl rfl))) (fun _ _ _ _ _ => (pts_one (pt_cmpR op_notIn_sign (pv 1) (C8.pe_gc (by rfl) T.g_LETTERS) (by rfl)))) (fun _ _ _ _ _ => (pv 1))) (pe_lst pa_nil) (nomark _)))))), ?_⟩), hm, D.kp, D.bindsN (fun _ _ _ _ _ _ us hl => match us, hl with | [_], _ => rfl), .nil⟩
  · obtain ⟨x, rfl, _⟩ := h
    rfl
  · obtain ⟨x, rfl, hl, hx, k⟩ := h
    refine q_when (b := (!true || (!(decide (1 ≤ (x.length : Int)) && decide ((x.length : Int) ≤ 8)) || decide (x ∈ kept))))
      (et_or (et_not (et_B (ev_isi (ev_var rfl) ev_c (fun _ _ => ty_str) k_str_str))) fun _ =>
       et_or (et_not (et_test (ev_chain (a := decide (1 ≤ (x.length : Int))) (b := decide ((x.length : Int) ≤ 8)) ev_c (ev_lenStr (z := x) (ev_var rfl) (by omega)) rv_I0 fun _ => ⟨_, ev_c, rv_I0⟩))) fun _ =>
       et_test (ev_op (ev_var rfl) ev_c (rv_inTs (T.keptT _)))) (fun h H1 e1 => ?_) (fun h H1 e1 => ?_)
    · refine s_ret (v := .bl false) ev_c fun H2 e2 => ?_
      have e : isName x = false := by
        unfold isName
        simp only [Bool.not_true, Bool.false_or, Bool.or_eq_true, Bool.not_eq_true', Bool.and_eq_false_iff, decide_eq_false_iff_not, decide_eq_true_eq] at h
        rcases h with (h | h) | h
        · rw [decide_eq_false (by omega)]
          rfl
        · rw [decide_eq_false (p := x.length ≤ 8) (by omega), Bool.and_false]
          rfl
        · rw [decide_eq_true h]
          simp
      rw [← e]
      exact k.go (e1.trans e2)
    · refine s_ret (v := .bl (isName x)) ?_ fun H2 e2 => k.go (e1.trans e2)
      simp only [Bool.not_true, Bool.false_or, Bool.or_eq_false_iff, Bool.not_eq_false', Bool.and_eq_true, decide_eq_false_iff_not, decide_eq_true_eq] at h
      have hlen : (tl x).length ≤ 40000 := by rw [← len_tl]; exact hl
      have e : isName x = (signsOf x fun c => !decide (c ∈ letters)).isEmpty := by
        rw [signs_empty]
        unfold isName
        rw [decide_eq_true (p := 1 ≤ x.length) (by omega), decide_eq_true (p := x.length ≤ 8) (by omega), decide_eq_false h.2]
        rfl
      rw [e]
      refine ev_eqNil ?_ (asc_signs hx)
      rw [← given_signs]
      refine el_lcS _ _ (ev_var rfl) hlen (fun x => rfl) (fun i c H2 e2 hc => ?_) (fun i c H2 e2 hc _ => ?_)
      · rw [getD_of hc, ← tl_letters]
        exact et_test (ev_op (ev_var rfl) ev_c rv_niSg)
      · rw [getD_of hc]
        exact ev_var rfl
end
end RS
end
section
set_option Elab.async false
set_option linter.all false
set_option maxRecDepth 100000
set_option maxHeartbeats 4000000
/-! W2: sums. -/
namespace RS
open PySem L2 TL Evl
section
variable {P : Program} {w : World} {K : PySem.W.Frag} {mg : Str → Option Value} {base : Heap} {a : Ads}
theorem sumT {K : PySem.W.Frag} {H H1 : Hp} {ad : Addr} {xs : List V} (e : Ex H H1) (h : H ad = some (.tup xs)) : SqT K H1 ad xs := st_of (e _ _ h)
theorem sgn_in (p : Bool) : sgn p ∈ (["plus", "minus"] : List Str) := by cases p <;> decide +kernel
theorem b_is_sum (T : Txt K mg w a) : ∀ n, CalG CX0 P w K mg base (n + 1) "is_sum" (spIsSum n) [] ∧ CalG CX0 P w K mg base (n + 1) "is_sum" (spIsSum n) [.int 1]
  | 0 => by
    obtain ⟨f, fd, D, hm⟩ := T.d_is_sum
    have F : FnOk P w K mg base CX0 1 f fd ["names", "value", "depth"] (spIsSum 0) := FnOk.never fun vs H Q E h => by
      obtain ⟨_, _, _, _, _, _, _, _, _, _, _, h, _⟩ := h
      omega
    obtain ⟨ds0, v0, b0⟩ := D.binds1 (ps := ["names", "value", "depth"]) 3 1 (by simp) rfl fun _ _ _ _ _ _ _ us its hu hi => match us, its, hu, hi with | [_, _, _], [_], _, _ => ⟨_, rfl, rfl⟩
    obtain ⟨ds1, v1, b1⟩ := D.binds1 (ps := ["names", "value", "depth"]) 2 0 (by simp) rfl fun _ _ _ _ _ _ _ us its hu hi => match us, its, hu, hi with | [_, _], [_], _, _ => ⟨_, rfl, rfl⟩
    exact ⟨⟨f, fd, _, ds0, F, hm, D.kp, b0, v0⟩, ⟨f, fd, _, ds1, F, hm, D.kp, b1, v1⟩⟩
  | n + 1 => by
    have C_is_sum := (b_is_sum T n).1
    have C_is_number : CalG CX0 P w K mg base 1 "is_number" spIsNumber [] := c_is_number T
    obtain ⟨f, fd, D, hm⟩ := T.d_is_sum
    have F : FnOk P w K mg base CX0 (n + 1 + 1) f fd ["names", "value", "depth"] (spIsSum (n + 1)) := by
      refine D.ok sc_is_sum (fun vs H Q E h => ?_) (fun cdv A outer s H vs Q E hr h => ⟨_, PSs.nox ((pss_cons (ps_if (pt_val (pe_callB call_isi (by rfl) T.b_isinstance (by decide +kernel) (pa_cons (pv 1) (pa_cons (pe_bltn (by rfl) T.b_str (by decide +kernel) (show RelV (.ty "str") (.type "str") from rfl)) pa_nil)))) (pss_one (ps_ret (pe_cmpR op_in_seq (pv 1) (pv 0) (by rfl)))) pss_nil)
      (pss_cons (ps_if (pt_not (pt_val (pe_callB call_isi (by rfl) T.b_isinstance (by decide +kernel) (pa_cons (pv 1) (pa_cons (pe_bltn (by rfl) T.b_tuple (by decide +kernel) (show RelV (.ty "tuple") (.type "tuple") from rfl)) pa_nil))))) (pss_one (ps_ret (pe_f0 C_is_number hr (by omega) (by rfl) (pa_cons (pv 1) (pa_cons (pe_un un_neg (C8.pe_gc (by rfl) T.g_MOST_CONSTANT)) (pa_cons (C8.pe_gc (by rfl) T.g_MOST_CONSTANT) pa_nil)))))) pss_nil)
      (pss_cons (ps_if (PW.pt (pw_or (pt_cmpR op_ne (pe_callB call_len_seq (by rfl) T.b_len (by decide +kernel) (pa_cons (pv 1) pa_nil)) pe_int (nomark _)) (pw_or (pt_not (pt_val (pe_callB call_isi (by rfl) T.b_isinstance (by decide +kernel) (pa_cons (pe_ix ix_tup (pv 1) pe_int (fun _ _ => rfl)) (pa_cons (pe_bltn (by rfl) T.b_str (by decide +kernel) (show RelV (.ty "str") (.type "str") from rfl)) pa_nil))))) (pw_or (pt_cmpR op_notIn_seq (pe_ix ix_tup (pv 1) pe_int (fun _ _ => rfl)) (pe_tup (pa_cons pe_str (pa_cons pe_str pa_nil))) (by rfl)) (pw_or1 (pt_cmpR op_gt (pv 2) (C8.pe_gc (by rfl) T.g_MOST_DEPTH) (nomark _))))))) (pss_one (ps_ret pe_bl)) pss_nil)
      (pss_one (ps_ret (pe_and (pe_f0 C_is_sum hr (by omega) (by rfl) (pa_cons (pv 0) (pa_cons (pe_ix ix_tup (pv 1) pe_int (fun _ _ => rfl)) (pa_cons (pe_op op_add (pv 2) pe_int) pa_nil)))) (pe_one (pe_f0 C_is_sum hr (by omega) (by rfl) (pa_cons (pv 0) (pa_cons (pe_ix ix_tup (pv 1) pe_int (fun _ _ => rfl)) (pa_cons (pe_op op_add (pv 2) pe_int) pa_nil)))))))))))), ?_⟩)
      · obtain ⟨na, names, v, s, d, rfl, _⟩ := h
        rfl
      · obtain ⟨na, names, v, s, d, rfl, hna, hv, hs, hd1, hd2, hd3, k⟩ := h
        have hN : ∀ H1, Ex H H1 → SqT K H1 na (names.map V.str) := fun H1 e => sumT e hna
        cases s with
        | num i =>
          cases (show v = .int i from hv)
          refine q_when (b := false) (et_B (ev_isi (ev_var rfl) ev_c (fun _ _ => ty_int) k_int_str)) (fun h => nomatch h) fun _ H1 e1 => ?_
          refine q_when (b := true) (et_not (et_B (ev_isi (ev_var rfl) ev_c (fun _ _ => ty_int) k_int_tuple))) (fun _ H2 e2 => ?_) (fun h => nomatch h)
          refine s_ret (v := .bl true) (ev_call (ea_cons (ev_var rfl) (ea_cons (ev_un ev_c ru_neg) (ea_cons ev_c ea_nil))) fun H3 e3 Q' q E' => ⟨i, -1000, 1000, rfl, hs.1, hs.2, q⟩) fun H3 e3 => k.go ((e1.trans e2).trans e3)
        | nam x =>
          cases (show v = .str x from hv)
          refine q_when (b := true) (et_B (ev_isi (ev_var rfl) ev_c (fun _ _ => ty_str) k_str_str)) (fun _ H1 e1 => ?_) (fun h => nomatch h)
          refine s_ret (v := .bl true) (ev_is (ev_op (ev_var rfl) (ev_var rfl) (rv_inTs (hN H1 e1))) (by rw [decide_eq_true hs.1])) fun H3 e3 => k.go (e1.trans e3)
        | bin p x y =>
          obtain ⟨ad, xs, rfl, had, v1, r1, rfl, e1, v2, r2, rfl, h2, v3, r3, rfl, h3, e3⟩ := hv
          cases (show v1 = .str (sgn p) from e1)
          cases (show r3 = [] from e3)
          have hT : ∀ H1, Ex H H1 → SqT K H1 ad [.str (sgn p), v2, v3] := fun H1 e => sumT e had
          have hd4 : d + (1 + (max (deep x) (deep y) : Nat)) ≤ 7 := by
            have z : deep (.bin p x y) = 1 + max (deep x) (deep y) := rfl
            rw [z] at hd2
            omega
          have hd5 : 1 + max (deep x) (deep y) < n + 1 := hd3
          refine q_when (b := false) (et_B (ev_isi (ev_var rfl) ev_c (fun _ e => ty_tup (e _ _ had)) k_tuple_str)) (fun h => nomatch h) fun _ H1 e1 => ?_
          refine q_when (b := false) (et_not (et_B (ev_isi (ev_var rfl) ev_c (fun _ e => ty_tup (e _ _ (e1 _ _ had))) k_tuple_tuple))) (fun h => nomatch h) fun _ H2 e2 => ?_
          have e12 := e1.trans e2
          refine q_when (b := (false || (false || (false || false))))
            (et_or (et_is (et_test (ev_op (ev_lenT (ev_var rfl) (hT _ e12)) ev_c (rv_ne rfl))) rfl) fun _ =>
             et_or (et_not (et_B (ev_isi (ev_op (ev_var rfl) ev_c (rv_ixT (hT _ e12) (atI_nat (j := 0) rfl))) ev_c (fun _ _ => ty_str) k_str_str))) fun _ =>
             et_or (et_is (et_test (ev_niUs (l := ["plus", "minus"]) (ev_op (ev_var rfl) ev_c (rv_ixT (hT _ e12) (atI_nat (j := 0) rfl))) (ea_cons ev_c (ea_cons ev_c ea_nil)) (by decide))) (by rw [decide_eq_true (sgn_in p)]; rfl)) fun _ =>
             et_is (et_test (ev_op (ev_var rfl) ev_c rv_I0)) (decide_eq_false (by omega)))
            (fun h => nomatch h) fun _ H3 e3 => ?_
          have e13 := e12.trans e3
          refine s_ret (v := .bl true) (ev_andV (a := true) (b := true) ?_ fun _ => ?_) fun H4 e4 => k.go (e13.trans e4)
          · exact ev_call (ea_cons (ev_var rfl) (ea_cons (ev_op (ev_var rfl) ev_c (rv_ixT (hT _ e13) (atI_nat (j := 1) rfl))) (ea_cons (ev_op (ev_var rfl) ev_c rv_I0) ea_nil)))
              fun H4 e4 Q' q E' => ⟨na, names, v2, x, d + 1, rfl, e4 _ _ (e13 _ _ hna), h2.ex (e13.trans e4), hs.1, by omega, by omega, by omega, q⟩
          · exact ev_call (ea_cons (ev_var rfl) (ea_cons (ev_op (ev_var rfl) ev_c (rv_ixT (hT _ e13) (atI_nat (j := 2) rfl))) (ea_cons (ev_op (ev_var rfl) ev_c rv_I0) ea_nil)))
              fun H4 e4 Q' q E' => ⟨na, names, v3, y, d + 1, rfl, e4 _ _ (e13 _ _ hna), h3.ex (e13.trans e4), hs.2, by omega, by omega, by omega, q⟩
    obtain ⟨ds0, v0, b0⟩ := D.binds1 (ps := ["names", "value", "depth"]) 3 1 (by simp) rfl fun _ _ _ _ _ _ _ us its hu hi => match us, its, hu, hi with | [_, _, _], [_], _, _ => ⟨_, rfl, rfl⟩
    obtain ⟨ds1, v1, b1⟩ := D.binds1 (ps := ["names", "value", "depth"]) 2 0 (by simp) rfl fun _ _ _ _ _ _ _ us its hu hi => match us, its, hu, hi with | [_, _], [_], _, _ => ⟨_, rfl, rfl⟩
    exact ⟨⟨f, fd, _, ds0, F, hm, D.kp, b0, v0⟩, ⟨f, fd, _, ds1, F, hm, D.kp, b1, v1⟩⟩
theorem b_terms (T : Txt K mg w a) : ∀ n, CalG CX0 P w K mg base (n + 1) "terms_in" (spTerms n) []
  | 0 => by
    obtain ⟨f, fd, D, hm⟩ := T.d_terms_in
    exact ⟨f, fd, ["value"], [], FnOk.never fun vs H Q E h => by
      obtain ⟨_, _, _, _, h, _⟩ := h
      omega, hm, D.kp, D.bindsN (fun _ _ _ _ _ _ us hl => match us, hl with | [_], _ => rfl), .nil⟩
  | n + 1 => by
    have C_terms_in : CalG CX0 P w K mg base (n + 1) "terms_in" (spTerms n) [] := b_terms T n
    obtain ⟨f, fd, D, hm⟩ := T.d_terms_in
    refine ⟨f, fd, _, _, D.ok sc_terms_in (fun vs H Q E h => ?_) (fun cdv A outer s H vs Q E hr h => ⟨_, PSs.nox ((pss_one (ps_ret (pe_ifExp (pt_val (pe_callB call_isi (by rfl) T.b_isinstance (by decide +kernel) (pa_cons (pv 0) (pa_cons (pe_bltn (by rfl) T.b_tuple (by decide +kernel) (show RelV (.ty "tuple") (.type "tuple") from rfl)) pa_nil)))) (pe_op op_add (pe_f0 C_terms_in hr (by omega) (by rfl) (pa_cons (pe_ix ix_tup (pv 0) pe_int (fun _ _ => rfl)) pa_nil)) (pe_f0 C_terms_in hr (by omega) (by rfl) (pa_cons (pe_ix ix_tup (pv 0) pe_int (fun _ _ => rfl)) pa_nil))) pe_int)))), ?_⟩), hm, D.kp, D.bindsN (fun _ _ _ _ _ _ us hl => match us, hl with | [_], _ => rfl), .nil⟩
    · obtain ⟨v, s, rfl, _⟩ := h
      rfl
    · obtain ⟨v, s, rfl, hv, hd, k⟩ := h
      refine s_ret (v := .int (terms s)) ?_ k
      cases s with
      | num i =>
        cases (show v = .int i from hv)
        exact ev_if (b := false) (et_B (ev_isi (ev_var rfl) ev_c (fun _ _ => ty_int) k_int_tuple)) (fun h => nomatch h) fun _ => ev_c
      | nam x =>
        cases (show v = .str x from hv)
        exact ev_if (b := false) (et_B (ev_isi (ev_var rfl) ev_c (fun _ _ => ty_str) k_str_tuple)) (fun h => nomatch h) fun _ => ev_c
      | bin p x y =>
        obtain ⟨ad, xs, rfl, had, v1, r1, rfl, e1, v2, r2, rfl, h2, v3, r3, rfl, h3, e3⟩ := hv
        cases (show r3 = [] from e3)
        have hd5 : 1 + max (deep x) (deep y) < n + 1 := hd
        have hT : SqT K H ad [v1, v2, v3] := sumT (Ex.refl H) had
        refine ev_if (b := true) (et_B (ev_isi (ev_var rfl) ev_c (fun _ e => ty_tup (e _ _ had)) k_tuple_tuple)) (fun _ => ?_) fun h => nomatch h
        have z : V.int (terms (.bin p x y)) = .int ((terms x : Int) + (terms y : Int)) := by
          show V.int ((terms x + terms y : Nat) : Int) = _
          rw [Int.natCast_add]
        rw [z]
        refine ev_op (ev_call (ea_cons (ev_op (ev_var rfl) ev_c (rv_ixT hT (atI_nat (j := 1) rfl))) ea_nil) fun H4 e4 Q' q E' => ⟨v2, x, rfl, h2.ex e4, by omega, q⟩)
          (ev_call (ea_cons (ev_op (ev_var rfl) ev_c (rv_ixT hT (atI_nat (j := 2) rfl))) ea_nil) fun H4 e4 Q' q E' => ⟨v3, y, rfl, h3.ex e4, by omega, q⟩) rv_I0
theorem c_is_sum (T : Txt K mg w a) : CalG CX0 P w K mg base 8 "is_sum" (spIsSum 7) [] := (b_is_sum T 7).1
theorem c_is_sum_d (T : Txt K mg w a) : CalG CX0 P w K mg base 8 "is_sum" (spIsSum 7) [.int 1] := (b_is_sum T 7).2
theorem c_terms_in (T : Txt K mg w a) : CalG CX0 P w K mg base 8 "terms_in" (spTerms 7) [] := b_terms T 7
theorem c_is_whole_sum (T : Txt K mg w a) : CalG CX0 P w K mg base 9 "is_whole_sum" spIsWholeSum [] := by
  have C_is_sum_d : CalG CX0 P w K mg base 8 "is_sum" (spIsSum 7) [.int 1] := c_is_sum_d T
  have C_terms_in : CalG CX0 P w K mg base 8 "terms_in" (spTerms 7) [] := c_terms_in T
  obtain ⟨f, fd, D, hm⟩ := T.d_is_whole_sum
  refine ⟨f, fd, _, _, D.ok sc_is_whole_sum (fun vs H Q E h => ?_) (fun cdv A outer s H vs Q E hr h => ⟨_, PSs.nox ((pss_one (ps_ret (pe_and (pe_f0 C_is_sum_d hr (by omega) (by rfl) (pa_cons (pv 0) (pa_cons (pv 1) pa_nil))) (pe_one (pe_cmpR op_le (pe_f0 C_terms_in hr (by omega) (by rfl) (pa_cons (pv 1) pa_nil)) (C8.pe_gc (by rfl) T.g_MOST_TERMS) (nomark _))))))), ?_⟩), hm, D.kp, D.bindsN (fun _ _ _ _ _ _ us hl => match us, hl with | [_, _], _ => rfl), .nil⟩
  · obtain ⟨na, names, v, s, rfl, _⟩ := h
    rfl
  · obtain ⟨na, names, v, s, rfl, hna, hv, hs, k⟩ := h
    have h2 := hs.2.1
    have h3 := hs.2.2
    refine s_ret (v := .bl true) (ev_andV (a := true) (b := true) ?_ fun _ => ?_) k
    · exact ev_call (ea_cons (ev_var rfl) (ea_cons (ev_var rfl) ea_nil)) fun H4 e4 Q' q E' => ⟨na, names, v, s, 1, rfl, e4 _ _ hna, hv.ex e4, hs.1, by omega, by omega, by omega, q⟩
    · exact ev_is (ev_op (ev_call (z := .int (terms s)) (ea_cons (ev_var rfl) ea_nil) fun H4 e4 Q' q E' => ⟨v, s, rfl, hv.ex e4, by omega, q⟩) ev_c rv_I0) (by rw [decide_eq_true (by omega)])
theorem c_is_test (T : Txt K mg w a) : CalG CX0 P w K mg base 10 "is_test" spIsTest [] := by
  have C_is_whole_sum : CalG CX0 P w K mg base 9 "is_whole_sum" spIsWholeSum [] := c_is_whole_sum T
  obtain ⟨f, fd, D, hm⟩ := T.d_is_test
  refine ⟨f, fd, _, _, D.ok sc_is_test (fun vs H Q E h => ?_) (fun cdv A outer s H vs Q E hr h => ⟨_, PSs.nox ((pss_cons (ps_if (PW.pt (pw_or (pt_not (pt_val (pe_callB call_isi (by rfl) T.b_isinstance (by decide +kernel) (pa_cons (pv 1) (pa_cons (pe_bltn (by rfl) T.b_tuple (by decide +kernel) (show RelV (.ty "tuple") (.type "tuple") from rfl)) pa_nil))))) (pw_or (pt_cmpR op_ne (pe_callB call_len_seq (by rfl) T.b_len (by decide +kernel) (pa_cons (pv 1) pa_nil)) pe_int (nomark _)) (pw_or1 (pt_not (pt_val (pe_callB call_isi (by rfl) T.b_isinstance (by decide +kernel) (pa_cons (pe_ix ix_tup (pv 1) pe_int (fun _ _ => rfl)) (pa_cons (pe_bltn (by rfl) T.b_bool (by decide +kernel) (show RelV (.ty "bool") (.type "bool") from rfl)) pa_nil))))))))) (pss_one (ps_ret pe_bl)) pss_nil)
      (pss_one (ps_ret (pe_f0 C_is_whole_sum hr (by omega) (by rfl) (pa_cons (pv 0) (pa_cons (pe_ix ix_tup (pv 1) pe_int (fun _ _ => rfl)) pa_nil))))))), ?_⟩), hm, D.kp, D.bindsN (fun _ _ _ _ _ _ us hl => match us, hl with | [_, _], _ => rfl), .nil⟩
  · obtain ⟨na, names, v, s, z, rfl, _⟩ := h
    rfl
  · obtain ⟨na, names, v, s, z, rfl, hna, hv, hs, k⟩ := h
    obtain ⟨ad, xs, rfl, had, v1, r1, rfl, h1, v2, r2, rfl, e2, e3⟩ := hv
    cases (show v2 = .bl z from e2)
    cases (show r2 = [] from e3)
    have hT : ∀ H1, Ex H H1 → SqT K H1 ad [v1, .bl z] := fun H1 e => sumT e had
    refine q_when (b := (false || (false || false)))
      (et_or (et_not (et_B (ev_isi (ev_var rfl) ev_c (fun _ e => ty_tup (e _ _ had)) k_tuple_tuple))) fun _ =>
       et_or (et_is (et_test (ev_op (ev_lenT (ev_var rfl) (hT _ (Ex.refl H))) ev_c (rv_ne rfl))) rfl) fun _ =>
       et_not (et_B (ev_isi (ev_op (ev_var rfl) ev_c (rv_ixT (hT _ (Ex.refl H)) (atI_nat (j := 1) rfl))) ev_c (fun _ _ => ty_bl) k_bool_bool)))
      (fun h => nomatch h) fun _ H1 e1 => ?_
    refine s_ret (v := .bl true) (ev_call (ea_cons (ev_var rfl) (ea_cons (ev_op (ev_var rfl) ev_c (rv_ixT (hT _ e1) (atI_nat (j := 0) rfl))) ea_nil)) fun H4 e4 Q' q E' => ⟨na, names, v1, s, rfl, e4 _ _ (e1 _ _ hna), h1.ex (e1.trans e4), hs, q⟩) fun H2 e2 => k.go (e1.trans e2)
end
end RS
end
section
set_option Elab.async false
set_option linter.all false
set_option maxRecDepth 100000
set_option maxHeartbeats 4000000
/-! W3: parts and blocks. -/
namespace RS
open PySem L2 TL Evl
section
variable {K : PySem.W.Frag} {σ : L2.St} {H : Hp} {ta tb tc te : TE} {x y z v w : V} {r r' : R2} {t u : TT} {D : Ends} {tu tz : TS}
theorem q_par {i j : Nat} {tA : TA} (h : EvA tA σ H [v, w]) (k : ∀ H1, Ex H H1 → tz D ((σ.set i (some v)).set j (some w)) H1) : tSeq (tPar i j tA) tz D σ H := h H (Ex.refl H) _ fun H1 e => ⟨v, w, rfl, k H1 e⟩
theorem q_no (h : EvT t σ H false) (k : ∀ H1, Ex H H1 → tz D σ H1) : tSeq (tIfS t tu tNext) tz D σ H := q_when h (fun h => nomatch h) fun _ => k
theorem q_yes (h : EvT t σ H true) (k : ∀ H1, Ex H H1 → tu { D with nx := tz D } σ H1) : tSeq (tIfS t tu tNext) tz D σ H := q_when h (fun _ => k) fun h => nomatch h
theorem et_w {x y : Str} {b : Bool} (hx : Ev ta σ H (.str x)) (hb : decide (x = y) = b) : EvT (tTest (tOp rEq ta (tC (.str y)))) σ H b := by
  refine et_is (et_test (ev_op hx ev_c (rv_eq rfl))) ?_
  rw [← hb]
  by_cases h : x = y
  · rw [decide_eq_true h, decide_eq_true (congrArg V.str h)]
  · rw [decide_eq_false h, decide_eq_false fun q => h (V.str.inj q)]
theorem ev_eqI {i j : Int} {b : Bool} (hx : Ev ta σ H (.int i)) (hy : Ev tb σ H (.int j)) (hb : decide (i = j) = b) : Ev (tOp rEq ta tb) σ H (.bl b) := by
  refine ev_is (ev_op hx hy (rv_eq rfl)) ?_
  rw [← hb]
  by_cases h : i = j
  · rw [decide_eq_true h, decide_eq_true (congrArg V.int h)]
  · rw [decide_eq_false h, decide_eq_false fun q => h (V.int.inj q)]
theorem ev_neI {i j : Int} {b : Bool} (hx : Ev ta σ H (.int i)) (hy : Ev tb σ H (.int j)) (hb : (!decide (i = j)) = b) : Ev (tOp rNe ta tb) σ H (.bl b) := by
  refine ev_is (ev_op hx hy (rv_ne rfl)) ?_
  rw [← hb]
  by_cases h : i = j
  · rw [decide_eq_true h, decide_eq_true (congrArg V.int h)]
  · rw [decide_eq_false h, decide_eq_false fun q => h (V.int.inj q)]
theorem el_if {b : Bool} {xs : List V} (h : EvT t σ H b) (h1 : b = true → EvL ta σ H xs) (h2 : b = false → EvL tb σ H xs) : EvL (tIf t ta tb) σ H xs := fun H1 e Q q => h H1 e _ fun H2 e2 => by
  cases b with
  | true =>
    show ta σ H2 Q
    exact h1 rfl H2 (e.trans e2) Q fun p H3 hp e3 h3 => q p H3 (fresh_back e2 hp) (e2.trans e3) h3
  | false =>
    show tb σ H2 Q
    exact h2 rfl H2 (e.trans e2) Q fun p H3 hp e3 h3 => q p H3 (fresh_back e2 hp) (e2.trans e3) h3
theorem el_is {xs ys : List V} (h : EvL te σ H xs) (e : xs = ys) : EvL te σ H ys := e ▸ h
theorem ev_and2 (h1 : Ev ta σ H (.bl true)) (h2 : Ev tb σ H (.bl true)) : Ev (tAndV ta tb) σ H (.bl true) := ev_andV (a := true) (b := true) h1 fun _ => h2
theorem ev_eqS {x y : Str} {b : Bool} (hx : Ev ta σ H (.str x)) (hy : Ev tb σ H (.str y)) (hb : decide (x = y) = b) : Ev (tOp rEq ta tb) σ H (.bl b) := by
  refine ev_is (ev_op hx hy (rv_eq rfl)) ?_
  rw [← hb]
  by_cases h : x = y
  · rw [decide_eq_true h, decide_eq_true (congrArg V.str h)]
  · rw [decide_eq_false h, decide_eq_false fun q => h (V.str.inj q)]
theorem ev_neS {x y : Str} {b : Bool} (hx : Ev ta σ H (.str x)) (hy : Ev tb σ H (.str y)) (hb : (!decide (x = y)) = b) : Ev (tOp rNe ta tb) σ H (.bl b) := by
  refine ev_is (ev_op hx hy (rv_ne rfl)) ?_
  rw [← hb]
  by_cases h : x = y
  · rw [decide_eq_true h, decide_eq_true (congrArg V.str h)]
  · rw [decide_eq_false h, decide_eq_false fun q => h (V.str.inj q)]
end
/-! ### texts within data are plain -/
mutual
def dtA : Dt → Prop
  | .str x => asc x
  | .tup ds => dtAs ds
  | _ => True
def dtAs : List Dt → Prop
  | [] => True
  | d :: ds => dtA d ∧ dtAs ds
end
theorem asc_ok {x : Str} (h : asc x) : PyData.strOk x = true := by
  unfold PyData.strOk
  rw [← Array.all_toList, List.all_eq_true]
  intro c hc
  have := h c hc
  exact decide_eq_true (by omega)
mutual
theorem can_of : ∀ d : Dt, dtA d → (toP d).canLay0 = true
  | .non, _ => by rw [toP, PyData.canLay0]
  | .bl _, _ => by rw [toP, PyData.canLay0]
  | .int _, _ => by rw [toP, PyData.canLay0]
  | .str x, h => by
    rw [toP, PyData.canLay0]
    exact asc_ok h
  | .tup ds, h => by
    rw [toP, PyData.canLay0]
    exact can_ofs ds h
theorem can_ofs : ∀ ds : List Dt, dtAs ds → PyData.canLayAll0 (toPs ds) = true
  | [], _ => by rw [toPs, PyData.canLayAll0]
  | d :: ds, h => by rw [toPs, PyData.canLayAll0, can_of d h.1, can_ofs ds h.2]; rfl
end
theorem asc_name {x : Str} (h : isName x = true) : asc x := fun c hc => by
  have := (isName_spec h).2.2.2 c hc
  omega
theorem asc_lit {x : Str} (h : ((tl x).all fun c => decide (c < 128)) = true) : asc x := fun c hc => of_decide_eq_true (List.all_eq_true.mp h c hc)
theorem dtA_S {names : List Str} : ∀ s : Sm, okSm names s → dtA (eS s)
  | .num i, _ => True.intro
  | .nam x, h => asc_name h.2
  | .bin p x y, h => ⟨by cases p <;> exact asc_lit (by decide +kernel), dtA_S x h.1, dtA_S y h.2, True.intro⟩
mutual
theorem dtA_P {names done : List Str} (hn : ∀ x ∈ names, isName x = true) (hd : ∀ x ∈ done, isName x = true) : ∀ (p : Pt) (d : Nat), okP names done d p → dtA (eP p)
  | .letP x s, d, h => by
    rw [okP] at h
    rw [eP]
    exact ⟨asc_lit (by decide +kernel), asc_name (hn x h.1), dtA_S s h.2.1, True.intro⟩
  | .say s, d, h => by
    rw [okP] at h
    rw [eP]
    exact ⟨asc_lit (by decide +kernel), dtA_S s h.1, True.intro⟩
  | .ask x, d, h => by
    rw [okP] at h
    rw [eP]
    exact ⟨asc_lit (by decide +kernel), asc_name (hn x h), True.intro⟩
  | .doP x, d, h => by
    rw [okP] at h
    rw [eP]
    exact ⟨asc_lit (by decide +kernel), asc_name (hd x h), True.intro⟩
  | .stop, d, h => by
    rw [eP]
    exact ⟨asc_lit (by decide +kernel), True.intro⟩
  | .whl s z b, d, h => by
    rw [okP] at h
    rw [eP]
    exact ⟨asc_lit (by decide +kernel), ⟨dtA_S s h.1.1, True.intro, True.intro⟩, dtA_B hn hd b _ h.2.2, True.intro⟩
  | .rep n b, d, h => by
    rw [okP] at h
    rw [eP]
    exact ⟨asc_lit (by decide +kernel), True.intro, dtA_B hn hd b _ h.2.2, True.intro⟩
  | .ifP s z b c, d, h => by
    rw [okP] at h
    rw [eP]
    exact ⟨asc_lit (by decide +kernel), ⟨dtA_S s h.1.1, True.intro, True.intro⟩, dtA_B hn hd b _ h.2.2.1, dtA_B hn hd c _ h.2.2.2, True.intro⟩
theorem dtA_B {names done : List Str} (hn : ∀ x ∈ names, isName x = true) (hd : ∀ x ∈ done, isName x = true) : ∀ (b : List Pt) (d : Nat), okB names done d b → dtAs (ePs b)
  | [], d, h => True.intro
  | p :: r, d, h => by
    rw [okB] at h
    exact ⟨dtA_P hn hd p d h.1, dtA_B hn hd r d h.2⟩
end
/-! ### the promises -/
structure Names (H : Hp) (na : Addr) (names : List Str) : Prop where
  at_ : H na = some (.tup (names.map V.str))
  nm : ∀ x ∈ names, isName x = true
theorem Names.ex {H H' : Hp} {na : Addr} {l : List Str} (e : Ex H H') (h : Names H na l) : Names H' na l := ⟨e _ _ h.at_, h.nm⟩
theorem Names.sq {K : PySem.W.Frag} {H H' : Hp} {na : Addr} {l : List Str} (e : Ex H H') (h : Names H na l) : SqT K H' na (l.map V.str) := st_of (e _ _ h.at_)
def spIsPart (n : Nat) : Sp := fun vs H Q _ => ∃ (na da : Addr) (names done : List Str) (v : V) (p : Pt) (d : Nat), vs = [.ref na, .ref da, v, .int d] ∧ Names H na names ∧ Names H da done ∧ Td H (eP p) v ∧ okP names done d p ∧ szP p ≤ 30000 ∧ d ≤ 6 ∧ 7 ≤ d + n ∧ RetV (.bl true) H Q
def spIsBlock (n : Nat) : Sp := fun vs H Q _ => ∃ (na da : Addr) (names done : List Str) (v : V) (b : List Pt) (d : Nat), vs = [.ref na, .ref da, v, .int d] ∧ Names H na names ∧ Names H da done ∧ Td H (eB b) v ∧ okB names done d b ∧ szB b ≤ 30000 ∧ d ≤ 6 ∧ 7 ≤ d + n ∧ RetV (.bl true) H Q
theorem okB_get {names done : List Str} {d : Nat} : ∀ {b : List Pt} {i : Nat} {p : Pt}, okB names done d b → b[i]? = some p → okP names done d p
  | [], i, p, _, h => by simp at h
  | q :: r, 0, p, h, e => by
    rw [okB] at h
    cases (Option.some.inj e : q = p)
    exact h.1
  | q :: r, i + 1, p, h, e => by
    rw [okB] at h
    exact okB_get (i := i) h.2 e
theorem szP_pos (p : Pt) : 1 ≤ szP p := by
  cases p <;> simp only [szP] <;> omega
theorem szB_len : ∀ b : List Pt, b.length ≤ szB b
  | [] => Nat.zero_le _
  | p :: r => by
    have h1 := szP_pos p
    have h2 := szB_len r
    rw [szB, List.length_cons]
    omega
theorem szB_get : ∀ {b : List Pt} {i : Nat} {p : Pt}, b[i]? = some p → szP p ≤ szB b
  | [], i, p, h => by simp at h
  | q :: r, 0, p, e => by
    cases (Option.some.inj e : q = p)
    rw [szB]
    omega
  | q :: r, i + 1, p, e => by
    have := szB_get (b := r) (i := i) e
    rw [szB]
    omega
theorem ePs_get {b : List Pt} {i : Nat} {d : Dt} (h : (ePs b)[i]? = some d) : ∃ p, b[i]? = some p ∧ d = eP p := by
  rw [ePs_map, List.getElem?_map] at h
  cases e : b[i]? with
  | none => rw [e] at h; cases h
  | some p =>
    rw [e] at h
    exact ⟨p, rfl, (Option.some.inj h).symm⟩
section
variable {P : Program} {w : World} {K : PySem.W.Frag} {mg : Str → Option Value} {base : Heap} {a : Ads}
theorem tup_nil {H : Hp} {K : PySem.W.Frag} {σ : L2.St} {ta : TE} {v : V} {d : Dt} {ds : List Dt} (hv : Ev ta σ H v) (h : Td H (.tup (d :: ds)) v) (hA : dtA (.tup (d :: ds))) : Ev (tOp (rEqM K) ta (tTup tNil)) σ H (.bl false) :=
  ev_opU hv (eu_tup ea_nil (Nat.zero_le _)) fun p H1 hp e H2 e2 Q q => ⟨_, .tuple [], Td.toDp _ _ (h.ex (e.trans e2)), .tup (st_of (e2 _ _ hp)) .nil, can_of _ hA, by decide +kernel, by
    have z : (PyData.tuple []).depth = 1 := by decide +kernel
    rw [z]
    omega, by
    have z : PyData.eqv (toP (.tup (d :: ds))) (.tuple []) = false := by
      rw [toP, toPs, PyData.eqv, PyData.eqvAll]
    rw [z]
    exact q H2 (Ex.refl H2)⟩
theorem b_blocks (T : Txt K mg w a) : ∀ n, CalG CX0 P w K mg base (10 + 2 * n) "is_part" (spIsPart n) [] ∧ CalG CX0 P w K mg base (11 + 2 * n) "is_block" (spIsBlock n) []
  | 0 => by
    obtain ⟨f, fd, D, hm⟩ := T.d_is_part
    obtain ⟨f2, fd2, D2, hm2⟩ := T.d_is_block
    refine ⟨⟨f, fd, ["names", "done", "part", "depth"], [], FnOk.never fun vs H Q E h => ?_, hm, D.kp, D.bindsN (fun _ _ _ _ _ _ us hl => match us, hl with | [_, _, _, _], _ => rfl), .nil⟩,
      ⟨f2, fd2, ["names", "done", "block", "depth"], [], FnOk.never fun vs H Q E h => ?_, hm2, D2.kp, D2.bindsN (fun _ _ _ _ _ _ us hl => match us, hl with | [_, _, _, _], _ => rfl), .nil⟩⟩
    · obtain ⟨_, _, _, _, _, _, _, _, _, _, _, _, _, h1, h2, _⟩ := h
      omega
    · obtain ⟨_, _, _, _, _, _, _, _, _, _, _, _, _, h1, h2, _⟩ := h
      omega
  | n + 1 => by
    have C_is_block : CalG CX0 P w K mg base (11 + 2 * n) "is_block" (spIsBlock n) [] := (b_blocks T n).2
    have C_is_whole_sum : CalG CX0 P w K mg base 9 "is_whole_sum" spIsWholeSum [] := c_is_whole_sum T
    have C_is_test : CalG CX0 P w K mg base 10 "is_test" spIsTest [] := c_is_test T
    have C_is_number : CalG CX0 P w K mg base 1 "is_number" spIsNumber [] := c_is_number T
    have C_is_part : CalG CX0 P w K mg base (10 + 2 * (n + 1)) "is_part" (spIsPart (n + 1)) [] := by
      obtain ⟨f, fd, D, hm⟩ := T.d_is_part
      refine ⟨f, fd, ["names", "done", "part", "depth"], [], (?_ : FnOk P w K mg base CX0 (11 + 2 * n + 1) f fd ["names", "done", "part", "depth"] (spIsPart (n + 1))).mono (by omega), hm, D.kp, D.bindsN (fun _ _ _ _ _ _ us hl => match us, hl with | [_, _, _, _], _ => rfl), .nil⟩
      refine D.ok sc_is_part (fun vs H Q E h => ?_) (fun cdv A outer s H vs Q E hr h => ⟨_, PSs.nox ((pss_cons (ps_if (PW.pt (pw_or (pt_not (pt_val (pe_callB call_isi (by rfl) T.b_isinstance (by decide +kernel) (pa_cons (pv 2) (pa_cons (pe_bltn (by rfl) T.b_tuple (by decide +kernel) (show RelV (.ty "tuple") (.type "tuple") from rfl)) pa_nil))))) (pw_or (pt_cmpR (op_eqM hr.units) (pv 2) (pe_tup pa_nil) (nomark _)) (pw_or1 (pt_not (pt_val (pe_callB call_isi (by rfl) T.b_isinstance (by decide +kernel) (pa_cons (pe_ix ix_tup (pv 2) pe_int (fun _ _ => rfl)) (pa_cons (pe_bltn (by rfl) T.b_str (by decide +kernel) (show RelV (.ty "str") (.type "str") from rfl)) pa_nil))))))))) (pss_one (ps_ret pe_bl)) pss_nil)
      (pss_cons (ps_par (i := 4) (j := 5) (by rfl) sc_is_part.nd rfl rfl (by decide) rfl rfl (pa_cons (pe_ix ix_tup (pv 2) pe_int (fun _ _ => rfl)) (pa_cons (pe_callB call_len_seq (by rfl) T.b_len (by decide +kernel) (pa_cons (pv 2) pa_nil)) pa_nil)) (by rfl))
      (pss_cons (ps_if (pt_cmpR op_eq (pv 4) pe_str (nomark _)) (pss_one (ps_ret (pe_and (pe_cmpR op_eq (pv 5) pe_int (nomark _)) (pe_and (pe_callB call_isi (by rfl) T.b_isinstance (by decide +kernel) (pa_cons (pe_ix ix_tup (pv 2) pe_int (fun _ _ => rfl)) (pa_cons (pe_bltn (by rfl) T.b_str (by decide +kernel) (show RelV (.ty "str") (.type "str") from rfl)) pa_nil))) (pe_and (pe_cmpR op_in_seq (pe_ix ix_tup (pv 2) pe_int (fun _ _ => rfl)) (pv 0) (by rfl)) (pe_one (pe_f0 C_is_whole_sum hr (by omega) (by rfl) (pa_cons (pv 0) (pa_cons (pe_ix ix_tup (pv 2) pe_int (fun _ _ => rfl)) pa_nil))))))))) pss_nil)
      (pss_cons (ps_if (pt_cmpR op_eq (pv 4) pe_str (nomark _)) (pss_one (ps_ret (pe_and (pe_cmpR op_eq (pv 5) pe_int (nomark _)) (pe_one (pe_f0 C_is_whole_sum hr (by omega) (by rfl) (pa_cons (pv 0) (pa_cons (pe_ix ix_tup (pv 2) pe_int (fun _ _ => rfl)) pa_nil))))))) pss_nil)
      (pss_cons (ps_if (pt_cmpR op_in_seq (pv 4) (pe_tup (pa_cons pe_str (pa_cons pe_str pa_nil))) (by rfl)) (pss_one (ps_ret (pe_and (pe_cmpR op_eq (pv 5) pe_int (nomark _)) (pe_and (pe_callB call_isi (by rfl) T.b_isinstance (by decide +kernel) (pa_cons (pe_ix ix_tup (pv 2) pe_int (fun _ _ => rfl)) (pa_cons (pe_bltn (by rfl) T.b_str (by decide +kernel) (show RelV (.ty "str") (.type "str") from rfl)) pa_nil))) (pe_one (pe_cmpR op_in_seq (pe_ix ix_tup (pv 2) pe_int (fun _ _ => rfl)) (pe_ifExp (pt_cmpR op_eq (pv 4) pe_str (nomark _)) (pv 0) (pv 1)) (by rfl))))))) pss_nil)
      (pss_cons (ps_if (pt_cmpR op_eq (pv 4) pe_str (nomark _)) (pss_one (ps_ret (pe_and (pe_cmpR op_eq (pv 5) pe_int (nomark _)) (pe_and (pe_f0 C_is_number hr (by omega) (by rfl) (pa_cons (pe_ix ix_tup (pv 2) pe_int (fun _ _ => rfl)) (pa_cons pe_int (pa_cons (C8.pe_gc (by rfl) T.g_MOST_ROUNDS) pa_nil)))) (pe_one (pe_f0 C_is_block hr (by omega) (by rfl) (pa_cons (pv 0) (pa_cons (pv 1) (pa_cons (pe_ix ix_tup (pv 2) pe_int (fun _ _ => rfl)) (pa_cons (pe_op op_add (pv 3) pe_int) pa_nil)))))))))) pss_nil)
      (pss_cons (ps_if (pt_cmpR op_eq (pv 4) pe_str (nomark _)) (pss_one (ps_ret (pe_and (pe_cmpR op_eq (pv 5) pe_int (nomark _)) (pe_and (pe_f0 C_is_test hr (by omega) (by rfl) (pa_cons (pv 0) (pa_cons (pe_ix ix_tup (pv 2) pe_int (fun _ _ => rfl)) pa_nil))) (pe_one (pe_f0 C_is_block hr (by omega) (by rfl) (pa_cons (pv 0) (pa_cons (pv 1) (pa_cons (pe_ix ix_tup (pv 2) pe_int (fun _ _ => rfl)) (pa_cons (pe_op op_add (pv 3) pe_int) pa_nil)))))))))) pss_nil)
      (pss_cons (ps_if (pt_cmpR op_eq (pv 4) pe_str (nomark _)) (pss_cons (ps_if (PW.pt (pw_or (pt_cmpR op_ne (pv 5) pe_int (nomark _)) (pw_or1 (pt_not (pt_val (pe_f0 C_is_test hr (by omega) (by rfl) (pa_cons (pv 0) (pa_cons (pe_ix ix_tup (pv 2) pe_int (fun _ _ => rfl)) pa_nil)))))))) (pss_one (ps_ret pe_bl)) pss_nil)
      (pss_one (ps_ret (pe_and (pe_f0 C_is_block hr (by omega) (by rfl) (pa_cons (pv 0) (pa_cons (pv 1) (pa_cons (pe_ix ix_tup (pv 2) pe_int (fun _ _ => rfl)) (pa_cons (pe_op op_add (pv 3) pe_int) pa_nil))))) (pe_one (pe_f0 C_is_block hr (by omega) (by rfl) (pa_cons (pv 0) (pa_cons (pv 1) (pa_cons (pe_ix ix_tup (pv 2) pe_int (fun _ _ => rfl)) (pa_cons (pe_op op_add (pv 3) pe_int) pa_nil)))))))))) pss_nil)
      (pss_one (ps_ret (pe_cmpR (op_eqM hr.units) (pv 2) (pe_tup (pa_cons pe_str pa_nil)) (nomark _))))))))))))), ?_⟩)
      · obtain ⟨na, da, names, done, v, p, d, rfl, _⟩ := h
        rfl
      · obtain ⟨na, da, names, done, v, p, d, rfl, hN, hD, hv, hp, hz, h6, h7, k⟩ := h
        have hA := dtA_P hN.nm hD.nm p d hp
        obtain ⟨lit, ds, eP'⟩ : ∃ lit ds, eP p = .tup (.str lit :: ds) := by
          cases p <;> exact ⟨_, _, by rw [eP]⟩
        have hv0 := hv
        rw [eP'] at hv0 hA
        obtain ⟨ad, xs, rfl, had, v0, rs, rfl, e0, hrs⟩ := id hv0
        cases (show v0 = .str lit from e0)
        have hT : ∀ H1, Ex H H1 → SqT K H1 ad (.str lit :: rs) := fun H1 e => sumT e had
        -- the first look, the two names
        refine q_no (et_or (a := false) (b := false) (et_not (a := true) (et_B (ev_isi (ev_var rfl) ev_c (fun _ e => ty_tup (e _ _ had)) k_tuple_tuple))) fun _ =>
          et_or (a := false) (b := false) (et_test (tup_nil (ev_var rfl) hv0 hA)) fun _ =>
          et_not (a := true) (et_B (ev_isi (ev_op (ev_var rfl) ev_c (rv_ixT (hT _ (Ex.refl H)) (atI_nat (j := 0) rfl))) ev_c (fun _ _ => ty_str) k_str_str))) fun H1 e1 => ?_
        refine q_par (ea_cons (ev_op (ev_var rfl) ev_c (rv_ixT (hT _ e1) (atI_nat (j := 0) rfl))) (ea_cons (ev_lenT (ev_var rfl) (hT _ e1)) ea_nil)) fun H2 e2' => ?_
        have e2 := e1.trans e2'
        clear e2'
        cases p with
        | letP x s =>
          rw [eP] at eP'
          cases eP'
          rw [okP] at hp
          obtain ⟨v1, r1, rfl, q1, v2, r2, rfl, q2, q3⟩ := hrs
          cases (show v1 = .str x from q1)
          cases (show r2 = [] from q3)
          refine q_yes (et_w (ev_var rfl) (decide_eq_true rfl)) fun H3 e3 => ?_
          have e23 := e2.trans e3
          refine s_ret (v := .bl true) (ev_and2 (ev_eqI (ev_var rfl) ev_c rfl) (ev_and2 (ev_isi (ev_op (ev_var rfl) ev_c (rv_ixT (hT _ e23) (atI_nat (j := 1) rfl))) ev_c (fun _ _ => ty_str) k_str_str)
            (ev_and2 (ev_is (ev_op (ev_op (ev_var rfl) ev_c (rv_ixT (hT _ e23) (atI_nat (j := 1) rfl))) (ev_var rfl) (rv_inTs (hN.sq e23))) (by rw [decide_eq_true hp.1]))
              (ev_call (ea_cons (ev_var rfl) (ea_cons (ev_op (ev_var rfl) ev_c (rv_ixT (hT _ e23) (atI_nat (j := 2) rfl))) ea_nil)) fun H4 e4 Q' q E' => ⟨na, names, v2, s, rfl, e4 _ _ (e23 _ _ hN.at_), q2.ex (e23.trans e4), hp.2, q⟩)))) fun H4 e4 => k.go (e23.trans e4)
        | say s =>
          rw [eP] at eP'
          cases eP'
          rw [okP] at hp
          obtain ⟨v1, r1, rfl, q1, q3⟩ := hrs
          cases (show r1 = [] from q3)
          refine q_no (et_w (ev_var rfl) (by decide +kernel)) fun H3 e3' => ?_
          refine q_yes (et_w (ev_var rfl) (decide_eq_true rfl)) fun H4 e4' => ?_
          have e24 := (e2.trans e3').trans e4'
          refine s_ret (v := .bl true) (ev_and2 (ev_eqI (ev_var rfl) ev_c rfl)
            (ev_call (ea_cons (ev_var rfl) (ea_cons (ev_op (ev_var rfl) ev_c (rv_ixT (hT _ e24) (atI_nat (j := 1) rfl))) ea_nil)) fun H4 e4 Q' q E' => ⟨na, names, v1, s, rfl, e4 _ _ (e24 _ _ hN.at_), q1.ex (e24.trans e4), hp, q⟩)) fun H4 e4 => k.go (e24.trans e4)
        | ask x =>
          rw [eP] at eP'
          cases eP'
          rw [okP] at hp
          obtain ⟨v1, r1, rfl, q1, q3⟩ := hrs
          cases (show v1 = .str x from q1)
          cases (show r1 = [] from q3)
          refine q_no (et_w (ev_var rfl) (by decide +kernel)) fun H3 e3' => ?_
          refine q_no (et_w (ev_var rfl) (by decide +kernel)) fun H4 e4' => ?_
          refine q_yes (et_is (et_test (ev_inUs (l := ["ask", "do"]) (ev_var rfl) (ea_cons ev_c (ea_cons ev_c ea_nil)) (by decide))) (by decide +kernel)) fun H5 e5' => ?_
          have e25 := ((e2.trans e3').trans e4').trans e5'
          refine s_ret (v := .bl true) (ev_and2 (ev_eqI (ev_var rfl) ev_c rfl) (ev_and2 (ev_isi (ev_op (ev_var rfl) ev_c (rv_ixT (hT _ e25) (atI_nat (j := 1) rfl))) ev_c (fun _ _ => ty_str) k_str_str)
            (ev_is (ev_op (ev_op (ev_var rfl) ev_c (rv_ixT (hT _ e25) (atI_nat (j := 1) rfl))) (ev_if (b := true) (et_w (ev_var rfl) (decide_eq_true rfl)) (fun _ => ev_var rfl) (fun h => nomatch h)) (rv_inTs (hN.sq e25))) (by rw [decide_eq_true hp])))) fun H4 e4 => k.go (e25.trans e4)
        | doP x =>
          rw [eP] at eP'
          cases eP'
          rw [okP] at hp
          obtain ⟨v1, r1, rfl, q1, q3⟩ := hrs
          cases (show v1 = .str x from q1)
          cases (show r1 = [] from q3)
          refine q_no (et_w (ev_var rfl) (by decide +kernel)) fun H3 e3' => ?_
          refine q_no (et_w (ev_var rfl) (by decide +kernel)) fun H4 e4' => ?_
          refine q_yes (et_is (et_test (ev_inUs (l := ["ask", "do"]) (ev_var rfl) (ea_cons ev_c (ea_cons ev_c ea_nil)) (by decide))) (by decide +kernel)) fun H5 e5' => ?_
          have e25 := ((e2.trans e3').trans e4').trans e5'
          refine s_ret (v := .bl true) (ev_and2 (ev_eqI (ev_var rfl) ev_c rfl) (ev_and2 (ev_isi (ev_op (ev_var rfl) ev_c (rv_ixT (hT _ e25) (atI_nat (j := 1) rfl))) ev_c (fun _ _ => ty_str) k_str_str)
            (ev_is (ev_op (ev_op (ev_var rfl) ev_c (rv_ixT (hT _ e25) (atI_nat (j := 1) rfl))) (ev_if (b := false) (et_w (ev_var rfl) (by decide +kernel)) (fun h => nomatch h) (fun _ => ev_var rfl)) (rv_inTs (hD.sq e25))) (by rw [decide_eq_true hp])))) fun H4 e4 => k.go (e25.trans e4)
        | stop =>
          rw [eP] at eP'
          cases eP'
          cases (show rs = [] from hrs)
          refine q_no (et_w (ev_var rfl) (by decide +kernel)) fun H3 e3' => ?_
          refine q_no (et_w (ev_var rfl) (by decide +kernel)) fun H4 e4' => ?_
          refine q_no (et_is (et_test (ev_inUs (l := ["ask", "do"]) (ev_var rfl) (ea_cons ev_c (ea_cons ev_c ea_nil)) (by decide))) (by decide +kernel)) fun H5 e5' => ?_
          refine q_no (et_w (ev_var rfl) (by decide +kernel)) fun H6 e6' => ?_
          refine q_no (et_w (ev_var rfl) (by decide +kernel)) fun H7 e7' => ?_
          refine q_no (et_w (ev_var rfl) (by decide +kernel)) fun H8 e8' => ?_
          have e28 := (((((e2.trans e3').trans e4').trans e5').trans e6').trans e7').trans e8'
          refine s_ret (v := .bl true) (ev_opU (ev_var rfl) (eu_tup (ea_cons ev_c ea_nil) (by decide)) fun p H1 hp e H2 e2 Q q => ⟨_, .tuple [.str "stop"], Td.toDp _ _ (hv0.ex ((e28.trans e).trans e2)), .tup (st_of (e2 _ _ hp)) (.cons (.str _) .nil), can_of _ hA, by decide +kernel, by decide +kernel, by
            have z : PyData.eqv (toP (.tup [.str "stop"])) (.tuple [.str "stop"]) = true := by decide +kernel
            rw [z]
            exact q H2 (Ex.refl H2)⟩) fun H9 e9 => k.go (e28.trans e9)
        | rep m b =>
          rw [eP] at eP'
          cases eP'
          rw [okP] at hp
          rw [szP] at hz
          obtain ⟨v1, r1, rfl, q1, v2, r2, rfl, q2, q3⟩ := hrs
          cases (show v1 = .int m from q1)
          cases (show r2 = [] from q3)
          refine q_no (et_w (ev_var rfl) (by decide +kernel)) fun H3 e3' => ?_
          refine q_no (et_w (ev_var rfl) (by decide +kernel)) fun H4 e4' => ?_
          refine q_no (et_is (et_test (ev_inUs (l := ["ask", "do"]) (ev_var rfl) (ea_cons ev_c (ea_cons ev_c ea_nil)) (by decide))) (by decide +kernel)) fun H5 e5' => ?_
          refine q_yes (et_w (ev_var rfl) (decide_eq_true rfl)) fun H6 e6' => ?_
          have e26 := (((e2.trans e3').trans e4').trans e5').trans e6'
          refine s_ret (v := .bl true) (ev_and2 (ev_eqI (ev_var rfl) ev_c rfl) (ev_and2
            (ev_call (ea_cons (ev_op (ev_var rfl) ev_c (rv_ixT (hT _ e26) (atI_nat (j := 1) rfl))) (ea_cons ev_c (ea_cons ev_c ea_nil))) fun H4 e4 Q' q E' => ⟨m, 0, 6, rfl, by omega, by omega, q⟩)
            (ev_call (ea_cons (ev_var rfl) (ea_cons (ev_var rfl) (ea_cons (ev_op (ev_var rfl) ev_c (rv_ixT (hT _ e26) (atI_nat (j := 2) rfl))) (ea_cons (ev_op (ev_var rfl) ev_c rv_I0) ea_nil))))
              fun H4 e4 Q' q E' => ⟨na, da, names, done, v2, b, d + 1, rfl, (hN.ex e26).ex e4, (hD.ex e26).ex e4, q2.ex (e26.trans e4), hp.2.2, by omega, by omega, by omega, q⟩))) fun H4 e4 => k.go (e26.trans e4)
        | whl s z b =>
          rw [eP] at eP'
          cases eP'
          rw [okP] at hp
          rw [szP] at hz
          obtain ⟨v1, r1, rfl, q1, v2, r2, rfl, q2, q3⟩ := hrs
          cases (show r2 = [] from q3)
          refine q_no (et_w (ev_var rfl) (by decide +kernel)) fun H3 e3' => ?_
          refine q_no (et_w (ev_var rfl) (by decide +kernel)) fun H4 e4' => ?_
          refine q_no (et_is (et_test (ev_inUs (l := ["ask", "do"]) (ev_var rfl) (ea_cons ev_c (ea_cons ev_c ea_nil)) (by decide))) (by decide +kernel)) fun H5 e5' => ?_
          refine q_no (et_w (ev_var rfl) (by decide +kernel)) fun H6 e6' => ?_
          refine q_yes (et_w (ev_var rfl) (decide_eq_true rfl)) fun H7 e7' => ?_
          have e27 := ((((e2.trans e3').trans e4').trans e5').trans e6').trans e7'
          refine s_ret (v := .bl true) (ev_and2 (ev_eqI (ev_var rfl) ev_c rfl) (ev_and2
            (ev_call (ea_cons (ev_var rfl) (ea_cons (ev_op (ev_var rfl) ev_c (rv_ixT (hT _ e27) (atI_nat (j := 1) rfl))) ea_nil)) fun H4 e4 Q' q E' => ⟨na, names, v1, s, z, rfl, e4 _ _ (e27 _ _ hN.at_), Td.ex (d := eT s z) (e27.trans e4) q1, hp.1, q⟩)
            (ev_call (ea_cons (ev_var rfl) (ea_cons (ev_var rfl) (ea_cons (ev_op (ev_var rfl) ev_c (rv_ixT (hT _ e27) (atI_nat (j := 2) rfl))) (ea_cons (ev_op (ev_var rfl) ev_c rv_I0) ea_nil))))
              fun H4 e4 Q' q E' => ⟨na, da, names, done, v2, b, d + 1, rfl, (hN.ex e27).ex e4, (hD.ex e27).ex e4, q2.ex (e27.trans e4), hp.2.2, by omega, by omega, by omega, q⟩))) fun H4 e4 => k.go (e27.trans e4)
        | ifP s z b c =>
          rw [eP] at eP'
          cases eP'
          rw [okP] at hp
          rw [szP] at hz
          obtain ⟨v1, r1, rfl, q1, v2, r2, rfl, q2, v3, r3, rfl, q3, q4⟩ := hrs
          cases (show r3 = [] from q4)
          refine q_no (et_w (ev_var rfl) (by decide +kernel)) fun H3 e3' => ?_
          refine q_no (et_w (ev_var rfl) (by decide +kernel)) fun H4 e4' => ?_
          refine q_no (et_is (et_test (ev_inUs (l := ["ask", "do"]) (ev_var rfl) (ea_cons ev_c (ea_cons ev_c ea_nil)) (by decide))) (by decide +kernel)) fun H5 e5' => ?_
          refine q_no (et_w (ev_var rfl) (by decide +kernel)) fun H6 e6' => ?_
          refine q_no (et_w (ev_var rfl) (by decide +kernel)) fun H7 e7' => ?_
          refine q_yes (et_w (ev_var rfl) (decide_eq_true rfl)) fun H8 e8' => ?_
          have e28 := (((((e2.trans e3').trans e4').trans e5').trans e6').trans e7').trans e8'
          refine q_no (et_or (a := false) (b := false) (et_test (ev_neI (ev_var rfl) ev_c rfl)) fun _ => et_not (a := true) (et_B
            (ev_call (ea_cons (ev_var rfl) (ea_cons (ev_op (ev_var rfl) ev_c (rv_ixT (hT _ e28) (atI_nat (j := 1) rfl))) ea_nil)) fun H4 e4 Q' q E' => ⟨na, names, v1, s, z, rfl, e4 _ _ (e28 _ _ hN.at_), Td.ex (d := eT s z) (e28.trans e4) q1, hp.1, q⟩))) fun H9 e9' => ?_
          have e29 := e28.trans e9'
          refine s_ret (v := .bl true) (ev_and2
            (ev_call (ea_cons (ev_var rfl) (ea_cons (ev_var rfl) (ea_cons (ev_op (ev_var rfl) ev_c (rv_ixT (hT _ e29) (atI_nat (j := 2) rfl))) (ea_cons (ev_op (ev_var rfl) ev_c rv_I0) ea_nil))))
              fun H4 e4 Q' q E' => ⟨na, da, names, done, v2, b, d + 1, rfl, (hN.ex e29).ex e4, (hD.ex e29).ex e4, q2.ex (e29.trans e4), hp.2.2.1, by omega, by omega, by omega, q⟩)
            (ev_call (ea_cons (ev_var rfl) (ea_cons (ev_var rfl) (ea_cons (ev_op (ev_var rfl) ev_c (rv_ixT (hT _ e29) (atI_nat (j := 3) rfl))) (ea_cons (ev_op (ev_var rfl) ev_c rv_I0) ea_nil))))
              fun H4 e4 Q' q E' => ⟨na, da, names, done, v3, c, d + 1, rfl, (hN.ex e29).ex e4, (hD.ex e29).ex e4, q3.ex (e29.trans e4), hp.2.2.2, by omega, by omega, by omega, q⟩)) fun H4 e4 => k.go (e29.trans e4)
    refine ⟨C_is_part, ?_⟩
    obtain ⟨f, fd, D, hm⟩ := T.d_is_block
    refine ⟨f, fd, ["names", "done", "block", "depth"], [], (?_ : FnOk P w K mg base CX0 (10 + 2 * (n + 1) + 1) f fd ["names", "done", "block", "depth"] (spIsBlock (n + 1))).mono (by omega), hm, D.kp, D.bindsN (fun _ _ _ _ _ _ us hl => match us, hl with | [_, _, _, _], _ => rfl), .nil⟩
    refine D.ok sc_is_block (fun vs H Q E h => ?_) (fun cdv A outer s H vs Q E hr h => ⟨_, PSs.nox ((pss_cons (ps_if (PW.pt (pw_or (pt_not (pt_val (pe_callB call_isi (by rfl) T.b_isinstance (by decide +kernel) (pa_cons (pv 2) (pa_cons (pe_bltn (by rfl) T.b_tuple (by decide +kernel) (show RelV (.ty "tuple") (.type "tuple") from rfl)) pa_nil))))) (pw_or1 (pt_cmpR op_gt (pv 3) (C8.pe_gc (by rfl) T.g_MOST_DEPTH) (nomark _))))) (pss_one (ps_ret pe_bl)) pss_nil)
      (pss_one (ps_ret (pe_cmpR (op_eqM hr.units) (pe_lc (own := [("part", 4)]) rfl sc_is_block.nd (pi_tup (pv 2)) (blkOk_by (N := ["names", "done", "block", "depth", "part"]) (sc := defScope st_is_block) (by decide +kernel)) (fun _ _ _ _ _ => (pg_name (i := 4) sc_is_block.nd rfl (Or.inl rfl))) (fun _ _ _ _ _ => (pts_one (pt_not (pt_val (pe_f0 C_is_part hr (by omega) (by rfl) (pa_cons (pv 0) (pa_cons (pv 1) (pa_cons (pv 4) (pa_cons (pv 3) pa_nil))))))))) (fun _ _ _ _ _ => (pv 4))) (pe_lst pa_nil) (nomark _)))))), ?_⟩)
    · obtain ⟨na, da, names, done, v, b, d, rfl, _⟩ := h
      rfl
    · obtain ⟨na, da, names, done, v, b, d, rfl, hN, hD, hv, hb, hz, h6, h7, k⟩ := h
      obtain ⟨ad, xs, rfl, had, hxs⟩ := id hv
      have hl := szB_len b
      have hlen : xs.length = b.length := by
        rw [TdL.len hxs, ePs_map, List.length_map]
      refine q_no (et_or (a := false) (b := false) (et_not (a := true) (et_B (ev_isi (ev_var rfl) ev_c (fun _ e => ty_tup (e _ _ had)) k_tuple_tuple))) fun _ =>
        et_is (et_test (ev_op (ev_var rfl) ev_c rv_I0)) (decide_eq_false (by omega))) fun H1 e1 => ?_
      refine s_ret (v := .bl true) (ev_eqNil0 ?_) fun H4 e4 => k.go (e1.trans e4)
      refine el_is (el_lcT (fun _ => false) (fun _ => .non) (ev_var rfl) (sumT e1 had) (by omega) (fun x => rfl) (fun i x H2 e2 hx => ?_) (fun i x H2 e2 hx hf => nomatch hf)) (given_none fun _ _ => rfl)
      obtain ⟨dt, hdt, htd⟩ := hxs.get hx
      obtain ⟨p, hp, rfl⟩ := ePs_get hdt
      have e12 := e1.trans e2
      have z1 := szB_get hp
      exact et_not (a := true) (et_B (ev_call (ea_cons (ev_var rfl) (ea_cons (ev_var rfl) (ea_cons (ev_var rfl) (ea_cons (ev_var rfl) ea_nil))))
        fun H4 e4 Q' q E' => ⟨na, da, names, done, x, p, d, rfl, (hN.ex e12).ex e4, (hD.ex e12).ex e4, htd.ex (e12.trans e4), okB_get hb hp, by omega, h6, by omega, q⟩))
theorem c_is_block (T : Txt K mg w a) : CalG CX0 P w K mg base 23 "is_block" (spIsBlock 6) [] := (b_blocks T 6).2
end
end RS
end
section
set_option Elab.async false
set_option linter.all false
set_option maxRecDepth 100000
set_option maxHeartbeats 4000000
/-! S1: len(set(t)) of a tuple of unlike texts. -/
namespace RSet
open PySem PySem.Spec PyProof.Rows L2
/-- a set as it is made, void -/
abbrev void0 (led : Bool) : Obj := { cls := .type "set", dict := none, data := .set #[] 0 (.fresh 0 0 led) }
theorem txt_at : ∀ {us : List Value} {xs : List Str}, StrsAre us xs → ∀ (i : Nat) (v : Value), us[i]? = some v → ∃ x t, xs[i]? = some x ∧ v = .str x t
  | _, _, .nil, i, v, h => by simp at h
  | _, _, .cons n t hr, 0, v, h => ⟨n, t, rfl, (Option.some.inj h).symm⟩
  | _, _, .cons n t hr, i + 1, v, h => txt_at hr i v h
/-- what the set knows behind i items -/
abbrev Knows (P : Program) (w : World) (h : Heap) (S : Addr) (xs : List Str) (i : Nat) : Prop := h.SetOf (PySem.strKind P w) S (fun z => (xs.take i).any (· == z)) i
theorem Knows.at {P : Program} {w : World} {h h' : Heap} {S : Addr} {xs : List Str} {i : Nat} (K : Knows P w h S xs i) (k : ∀ o, h.get? S = some o → h'.get? S = some o) : Knows P w h' S xs i := by
  obtain ⟨o, es, ep, tb, ho, r⟩ := K
  exact ⟨o, es, ep, tb, k o ho, r⟩
theorem fresh_item {xs : List Str} {i : Nat} {x : Str} (nd : xs.Nodup) (hx : xs[i]? = some x) : (xs.take i).any (· == x) = false := by
  rw [List.any_eq_false]
  intro y hy e
  have ey : y = x := eq_of_beq e
  obtain ⟨j, hj⟩ := List.mem_iff_getElem?.mp hy
  have hji : j < i := by
    have z := (List.getElem?_eq_some_iff.mp hj).1
    rw [List.length_take] at z
    omega
  rw [List.getElem?_take, if_pos hji, ey] at hj
  obtain ⟨l1, e1⟩ := List.getElem?_eq_some_iff.mp hj
  obtain ⟨l2, e2⟩ := List.getElem?_eq_some_iff.mp hx
  have := (List.getElem_inj nd).mp (e1.trans e2.symm)
  omega
section
variable {P : Program} {w : World} {A : Around} {R : Result → Shared → Prop} {I : Addr} {fp wr : List Addr} {G : Array GenState → Array GenState → Prop} {Pv : Nat → Value → Prop} {St : Nat → Shared → Prop}
theorem fill (xs : List Str) (nd : xs.Nodup) (few : xs.length ≤ 1000) (W : WalksS P w A.in1 I fp wr G xs.length Pv St) (S : Addr) (out : S ∉ fp) (val : ∀ i v, Pv i v → ∃ x t, xs[i]? = some x ∧ v = .str x t) :
    ∀ (left i : Nat) (s : Shared), xs.length = i + left → St i s → Knows P w s.heap S xs i →
      (∀ s', Moved (S :: wr) G s s' → Knows P w s'.heap S xs xs.length → R (.ok (.ret .none)) s') → codeAny (model P w) A (.builtin "set.update.loop" ⟨[.ref S, .ref I], []⟩) R s := by
  have inW : S ∉ wr := fun h => out (W.sub _ h)
  have more : ∀ b ∈ wr, b ∈ S :: wr := fun b => List.mem_cons_of_mem S
  intro left
  induction left with
  | zero =>
    intro i s e st kn go
    cases (show xs.length = i from e)
    refine codeAny_builtin F.entry_set_update_loop ?_
    rw [Around.under_plainId F.plain_set_update_loop _]
    refine wpAny_bind (W.done s _ _ st fun s1 mv => ?_)
    exact wpAny_pure (go s1 (mv.mono more) (kn.at fun o q => mv.heap S o inW q))
  | succ left ih =>
    intro i s e st kn go
    have lt : i < xs.length := by omega
    refine codeAny_builtin F.entry_set_update_loop ?_
    rw [Around.under_plainId F.plain_set_update_loop _]
    refine wpAny_bind (W.item i s _ _ lt st fun v s1 pv st1 mv => ?_)
    obtain ⟨x, t, hx, rfl⟩ := val i v pv
    have kn1 : Knows P w s1.heap S xs i := kn.at fun o q => mv.heap S o inW q
    show wpAny _ A.in1 (holding [Value.str x t] (setAdd S (.str x t)) >>= _) _ _ s1
    refine wpAny_bind (wpAny_holding ?_)
    unfold setAdd
    refine wpAny_holding (wpAny_bind ((PySem.strKind P w).pyHash (k := x) (strKind_is P w x t) ?_))
    refine wpAny_setAddHashed_of (knd := PySem.strKind P w) (s := { s1 with toks := s1.toks + 1 }) (strKind_is P w x t) rfl kn1 (by unfold scanBound; omega) fun h2 but kn2 => ?_
    have kn3 : Knows P w h2 S xs (i + 1) := by
      refine SetOf_congr kn2 (fun z => ?_) (by rw [if_neg (by rw [fresh_item nd hx]; exact Bool.false_ne_true)])
      show ((xs.take i).any (· == z) || decide (z = x)) = (xs.take (i + 1)).any (· == z)
      rw [List.take_add_one, hx, List.any_append]
      congr 1
      show decide (z = x) = ((x == z) || false)
      rw [Bool.or_false]
      by_cases q : z = x
      · rw [q, decide_eq_true rfl]
        exact (beq_self_eq_true x).symm
      · rw [decide_eq_false q]
        exact (beq_eq_false_iff_ne.mpr fun r => q r.symm).symm
    refine wpAny_pure ⟨plainId_quiet F.plain_set_update_loop _, ih (i + 1) _ (by omega) (W.frame _ s1 _ _ st1 (Nat.le_succ _) fun b hb o q => ?_) kn3 fun s3 mv3 kn4 => ?_⟩
    · exact (but.2 b fun r : b = S => out (r ▸ hb)).trans q
    · exact go s3 (Moved.trans W.gtrans ((mv.mono more).then_heap (Nat.le_succ _) fun b o hb q => (but.2 b fun r : b = S => hb (r ▸ List.mem_cons_self)).trans q) mv3) kn4
end
section
variable {P : Program} {w : World} {A : Around} {E : Value → Shared → Prop} {s : Shared}
set_option maxHeartbeats 8000000 in
theorem make {l : Addr} {items : Array Value} {xs : List Str} {Q : Value → Shared → Prop} (hh : A.handled = none) (hl : s.heap.IsTuple l items) (hi : StrsAre items.toList xs) (nd : xs.Nodup) (few : xs.length ≤ 1000)
    (go : ∀ (h' : Heap) (tk : Nat), Knows P w h' s.heap.objs.size xs xs.length → (∀ b o, b < s.heap.objs.size → s.heap.get? b = some o → h'.get? b = some o) → Q (.ref s.heap.objs.size) { s with heap := h', toks := tk }) :
    wpAny (model P w) A (call (.type "set") [.ref l]) Q E s := by
  have size : items.size = xs.length := by rw [← StrsAre.len_eq hi, Array.length_toList]
  obtain ⟨cc, cr, mro⟩ := F.called_set.mro
  have made := F.called_set.made
  have sub := F.called_set.sub
  have a1 := F.called_set.notType
  have a2 := F.called_set.canCreate
  have a3 := F.typeCall_set_1 (.ref l)
  refine wpAny_call (codeAny_of_tree ?_)
  show wpAny _ _ (callAny (.type "set") _) _ _ _
  refine wpAny_pure ⟨Code.quiet_builtin _ (by decide +kernel), codeAny_builtin F.entry_type_call ?_⟩
  rw [Around.under_plain (weight_type_call_type "set" [.ref l] []) rfl]
  repeat (any_goals (first | assumption | wp_step))
  refine codeAny_mono (code_set_new_1 (.ref l) (E := E) (Q₁ := fun v s1 => ∃ led : Bool, v = .ref s.heap.objs.size ∧ s1 = { s with heap := s.heap.push (void0 led) }) fun led => ⟨led, rfl, rfl⟩) fun r s1 hr => ?_
  cases r with
  | error er => exact hr
  | ok fl =>
    cases fl with
    | next => exact hr.elim
    | brk => exact hr.elim
    | cont => exact hr.elim
    | ret v =>
      obtain ⟨led, rfl, rfl⟩ := hr
      have new : (s.heap.push (void0 led)).get? s.heap.objs.size = some (void0 led) := Heap.get?_push_size _ rfl
      have ty : Shared.TypeIs { s with heap := s.heap.push (void0 led) } (.ref s.heap.objs.size) "set" := ⟨_, new, rfl⟩
      have b1 := F.called_set.init.lookup
      have b2 := F.called_set.init.bind (.ref s.heap.objs.size)
      repeat (any_goals (first | assumption | wp_step))
      refine codeAny_mono (codeAny_call_builtin (R := wants (fun r s2 => r = .none ∧ ∃ h' tk, s2 = { s with heap := h', toks := tk } ∧ Knows P w h' s.heap.objs.size xs xs.length ∧
        ∀ b o, b < s.heap.objs.size → s.heap.get? b = some o → h'.get? b = some o) E) F.called_set.init.plain F.entry_set_init (check_set_init_1 ty ?_)) fun r2 s2 hr2 => ?_
      · obtain ⟨⟨oc, od, dt, sl⟩, ho, hc, n0, hd⟩ := hl
        dsimp only at hc hd
        subst hc hd
        have ho2 : (s.heap.push (void0 led)).get? l = some { cls := .type "tuple", dict := od, data := .seq items n0, slots := sl } := Heap.get?_push_of_some _ ho
        have c1 := F.sub_tuple_set
        have c2 := F.sub_tuple_frozenset
        have c3 : (Value.type "tuple" == Value.type "dict") = false := by decide
        have t1 : (s.heap.push (void0 led)).IsTuple l items := ⟨_, ho2, rfl, n0, rfl⟩
        unfold Builtin.«set.__init__» noKeywords Builtin.Frozenset.updateFrom
        generalize hPI : pyIter = PI
        wp_walk
        subst hPI
        refine wpAny_pyIter_tuple t1 (wpAny_bind (wpAny_runValue ?_))
        have lS : l < s.heap.objs.size := Heap.lt_size ho
        have in3 : A.in1.in1.in1.handled = none := by simp [hh]
        have psz : (s.heap.push (void0 led)).objs.size = s.heap.objs.size + 1 := Heap.size_push ..
        have nI : l ≠ (s.heap.push (void0 led)).objs.size := by rw [psz]; exact Nat.ne_of_lt (Nat.lt_succ_of_lt lS)
        have out : s.heap.objs.size ∉ [(s.heap.push (void0 led)).objs.size, l] := by
          rw [psz]
          intro q
          rcases List.mem_cons.mp q with q | q
          · exact absurd q (Nat.ne_of_lt (Nat.lt_succ_self _))
          · exact absurd (List.mem_singleton.mp q) (Nat.ne_of_gt lS)
        have wk := (Walks.tuple in3 (prog := P) (w := w) (s.heap.push (void0 led)).objs.size l nI items).toS
        rw [size] at wk
        refine fill xs nd few wk s.heap.objs.size out (fun i v hv => txt_at hi i v (by rw [Array.getElem?_toList]; exact hv)) xs.length 0 _ (Nat.zero_add _).symm ⟨⟨_, Heap.get?_push_size _ rfl, rfl, rfl⟩, t1.push _⟩ ?_ ?_
        · refine SetOf_congr ((setObjOf_fresh (knd := PySem.strKind P w) led).setOf (Heap.get?_push_of_some _ new) (by unfold scanBound; omega)) (fun _ => rfl) rfl
        · intro s3 mv kn
          obtain ⟨h', g3, d3, tk, o3⟩ := s3
          cases (show g3 = s.gens from mv.gens)
          cases (show d3 = s.drawn from mv.drawn)
          cases (show o3 = s.os from mv.os)
          refine wpAny_pure (wpAny_pure ⟨rfl, h', tk, rfl, kn, fun b o hb q => mv.heap b o ?_ (Heap.get?_push_of_some _ (Heap.get?_push_of_some _ q))⟩)
          intro m
          rcases List.mem_cons.mp m with m | m
          · exact absurd m (Nat.ne_of_lt hb)
          · have m2 : b = (s.heap.push (void0 led)).objs.size := by simpa using m
            rw [psz] at m2
            omega
      · cases r2 with
        | error er => exact hr2
        | ok f2 =>
          cases f2 with
          | ret v2 =>
            obtain ⟨rfl, h', tk, rfl, kn, kp⟩ := hr2
            repeat (any_goals (first | assumption | wp_step))
            exact go _ _ kn kp
          | next => exact hr2.elim
          | brk => exact hr2.elim
          | cont => exact hr2.elim
end
end RSet
end
section
set_option Elab.async false
set_option linter.all false
set_option maxRecDepth 100000
set_option maxHeartbeats 4000000
/-! S2: the rule for len(set(t)). -/
namespace RS
open PySem L2 TL Evl
/-- len(set(t)), t a tuple of unlike texts -/
def tLenSetN (ta : TE) : TE := fun σ H Q => ta σ H fun x H1 => ∃ (l : Addr) (xs : List Str), x = .ref l ∧ H1 l = some (.tup (xs.map V.str)) ∧ xs.Nodup ∧ xs.length ≤ 1000 ∧ Q (.int xs.length) H1
theorem strs_are : ∀ {ys : List Str} {us : List Value}, Vals (ys.map V.str) us → PyProof.Rows.StrsAre us ys
  | [], _, .nil => .nil
  | y :: ys, _, .cons r t => by
    obtain ⟨k, rfl⟩ := r
    exact .cons y k (strs_are t)
theorem pe_lenSetN {X : Cx} {e : Expr} {te : TE} {p p2 q pos : Pos} (hc : X.calm = true) (g1 : Gl X "len") (m1 : X.mg "len" = none) (g2 : Gl X "set") (m2 : X.mg "set" = none) (he : PE X e te)
    (hs : starEach [e] X.env = (false, eval e X.env) :: starEach [] X.env := by rfl) : PE X (.Call (.Name "len" p) [.Call (.Name "set" p2) [e] [] q] [] pos) (tLenSetN te) := by
  refine ⟨fun pins s σ H Q I h => ?_⟩
  refine PyProof.Rows.Call_ (ld_blt I g1 m1 PySem.boot_len (PyProof.Rows.callWith_builtin1 (PyProof.Rows.args_cons ?_ rfl) rfl rfl))
  refine PyProof.Rows.Call_ (ld_blt I g2 m2 PyProof.Rows.boot_set (PyProof.Rows.callWith_type1 (PyProof.Rows.args_cons (thn (he.run pins s σ H _ I h) fun v s1 hv => PyProof.Rows.args_nil ?_) hs) hs rfl))
  obtain ⟨x, H1, I1, r1, l, xs, ex, hl, nd, few, q1⟩ := hv
  subst ex
  cases (show v = Value.ref l from r1)
  obtain ⟨z, its, rv, ob, eo, ec, n0, ed⟩ := I1.hok l _ hl
  refine RSet.make (I1.ok.hd hc) ⟨ob, eo, ec, n0, ed⟩ (by simpa using strs_are rv) nd few fun h' tk kn kp => PyProof.Rows.args_nil ?_
  obtain ⟨o, es, ep, t, ho, hex, hd, _, _, _, hf, hn⟩ := kn
  have I2 : Inv X pins σ H1 { s1 with heap := h', toks := tk } := I1.kept fun b o e => kp b o (Heap.lt_size e) e
  exact call_len_set ho hex hd hf (by rw [hn]; omega) ⟨.int xs.length, H1, I2.tok _, ⟨_, by rw [hn]⟩, q1⟩
end RS
end
section
set_option Elab.async false
set_option linter.all false
set_option maxRecDepth 100000
set_option maxHeartbeats 4000000
/-! W4: the parts counted; a whole program looked at. -/
namespace RS
open PySem L2 TL Evl
def inner : Pt → List (List Pt)
  | .whl _ _ b => [b]
  | .rep _ b => [b]
  | .ifP _ _ b c => [b, c]
  | _ => []
mutual
def htP : Pt → Nat
  | .whl _ _ b => 1 + htB b
  | .rep _ b => 1 + htB b
  | .ifP _ _ b c => 1 + max (htB b) (htB c)
  | _ => 0
def htB : List Pt → Nat
  | [] => 0
  | p :: r => max (htP p) (htB r)
end
theorem htB_get : ∀ {b : List Pt} {i : Nat} {p : Pt}, b[i]? = some p → htP p ≤ htB b
  | [], i, p, h => by simp at h
  | q :: r, 0, p, e => by
    cases (Option.some.inj e : q = p)
    rw [htB]
    omega
  | q :: r, i + 1, p, e => by
    have := htB_get (b := r) (i := i) e
    rw [htB]
    omega
theorem ht_inner {p : Pt} {b : List Pt} (h : b ∈ inner p) : htB b < htP p := by
  cases p <;> simp only [inner, List.mem_cons, List.not_mem_nil, or_false] at h
  case ifP s z b c =>
    rcases h with rfl | rfl <;> rw [htP] <;> omega
  all_goals (subst h; rw [htP]; omega)
theorem sz_inner (p : Pt) : szP p = 1 + ((inner p).map szB).sum := by
  cases p <;> simp [szP, inner]
mutual
theorem ht_okP {names done : List Str} : ∀ (p : Pt) (d : Nat), okP names done d p → d ≤ 6 → htP p + d ≤ 6
  | .letP x s, d, h, h6 => by rw [htP]; omega; all_goals (intros; contradiction)
  | .say s, d, h, h6 => by rw [htP]; omega; all_goals (intros; contradiction)
  | .ask x, d, h, h6 => by rw [htP]; omega; all_goals (intros; contradiction)
  | .doP x, d, h, h6 => by rw [htP]; omega; all_goals (intros; contradiction)
  | .stop, d, h, h6 => by rw [htP]; omega; all_goals (intros; contradiction)
  | .whl s z b, d, h, h6 => by
    rw [okP] at h
    have := ht_okB b (d + 1) h.2.2 (by omega)
    rw [htP]
    omega
  | .rep n b, d, h, h6 => by
    rw [okP] at h
    have := ht_okB b (d + 1) h.2.2 (by omega)
    rw [htP]
    omega
  | .ifP s z b c, d, h, h6 => by
    rw [okP] at h
    have h1 := ht_okB b (d + 1) h.2.2.1 (by omega)
    have h2 := ht_okB c (d + 1) h.2.2.2 (by omega)
    rw [htP]
    omega
theorem ht_okB {names done : List Str} : ∀ (b : List Pt) (d : Nat), okB names done d b → d ≤ 6 → htB b + d ≤ 6
  | [], d, h, h6 => by rw [htB]; omega
  | p :: r, d, h, h6 => by
    rw [okB] at h
    have h1 := ht_okP p d h.1 h6
    have h2 := ht_okB r d h.2 h6
    rw [htB]
    omega
end
def spUnlike : Sp := fun vs H Q _ => ∃ (na : Addr) (names : List Str), vs = [.ref na, .int 1, .int 5] ∧ Names H na names ∧ names.Nodup ∧ 1 ≤ names.length ∧ names.length ≤ 5 ∧ RetV (.bl true) H Q
/-- the inner blocks among a part's values -/
def innerV (lit : Str) (rs : List V) : List V := if lit ∈ (["if", "while", "repeat"] : List Str) then rs.tail else []
def spBlocksIn : Sp := fun vs H Q _ => ∃ (ad : Addr) (lit : Str) (rs : List V) (p : Pt), vs = [.ref ad] ∧ H ad = some (.tup (.str lit :: rs)) ∧ Td H (eP p) (.ref ad) ∧ RetL (innerV lit rs) H Q
def spParts (n : Nat) : Sp := fun vs H Q _ => ∃ (v : V) (b : List Pt), vs = [v] ∧ Td H (eB b) v ∧ htB b < n ∧ szB b ≤ 30000 ∧ RetV (.int (szB b)) H Q
section
variable {P : Program} {w : World} {K : PySem.W.Frag} {mg : Str → Option Value} {base : Heap} {a : Ads}
theorem ev_lenSetN {σ : L2.St} {H : Hp} {te : TE} {l : Addr} {xs : List Str} (h : Ev te σ H (.ref l)) (hl : H l = some (.tup (xs.map V.str))) (nd : xs.Nodup) (few : xs.length ≤ 1000) : Ev (tLenSetN te) σ H (.int xs.length) := fun H1 e Q q =>
  h H1 e _ fun H2 e2 => ⟨l, xs, rfl, e2 _ _ (e _ _ hl), nd, few, q H2 e2⟩
theorem c_are_unlike_names (T : Txt K mg w a) : CalG CX0 P w K mg base 2 "are_unlike_names" spUnlike [] := by
  have C_is_name : CalG CX0 P w K mg base 1 "is_name" spIsName [] := c_is_name T
  obtain ⟨f, fd, D, hm⟩ := T.d_are_unlike_names
  refine ⟨f, fd, _, _, D.ok sc_are_unlike_names (fun vs H Q E h => ?_) (fun cdv A outer s H vs Q E hr h => ⟨_, PSs.nox ((pss_cons (ps_if (PW.pt (pw_or (pt_not (pt_val (pe_callB call_isi (by rfl) T.b_isinstance (by decide +kernel) (pa_cons (pv 0) (pa_cons (pe_bltn (by rfl) T.b_tuple (by decide +kernel) (show RelV (.ty "tuple") (.type "tuple") from rfl)) pa_nil))))) (pw_or1 (pt_not (pt_chain op_le op_le (pv 1) (pe_callB call_len_seq (by rfl) T.b_len (by decide +kernel) (pa_cons (pv 0) pa_nil)) (pv 2)))))) (pss_one (ps_ret pe_bl)) pss_nil)
      (pss_one (ps_ret (pe_and (pe_cmpR (op_eqM hr.units) (pe_lc (own := [("name", 3)]) rfl sc_are_unlike_names.nd (pi_tup (pv 0)) (blkOk_by (N := ["value", "least", "most", "name"]) (sc := defScope st_are_unlike_names) (by decide +kernel)) (fun _ _ _ _ _ => (pg_name (i := 3) sc_are_unlike_names.nd rfl (Or.inl rfl))) (fun _ _ _ _ _ => (pts_one (pt_not (pt_val (pe_f0 C_is_name hr (by omega) (by rfl) (pa_cons (pv 3) pa_nil)))))) (fun _ _ _ _ _ => (pv 3))) (pe_lst pa_nil) (nomark _)) (pe_one (pe_cmpR op_eq (pe_lenSetN rfl (by rfl) T.b_len (by rfl) T.b_set (pv 0)) (pe_callB call_len_seq (by rfl) T.b_len (by decide +kernel) (pa_cons (pv 0) pa_nil)) (nomark _)))))))), ?_⟩), hm, D.kp, D.bindsN (fun _ _ _ _ _ _ us hl => match us, hl with | [_, _, _], _ => rfl), .nil⟩
  · obtain ⟨na, names, rfl, _⟩ := h
    rfl
  · obtain ⟨na, names, rfl, hN, nd, h1, h5, k⟩ := h
    have hl : ((names.map V.str).length : Int) = names.length := by rw [List.length_map]
    refine q_no (et_or (a := false) (b := false) (et_not (a := true) (et_B (ev_isi (ev_var rfl) ev_c (fun _ e => ty_tup (e _ _ hN.at_)) k_tuple_tuple))) fun _ =>
      et_not (a := true) (et_test (ev_is (ev_chain (a := decide ((1 : Int) ≤ ((names.map V.str).length : Int))) (b := decide (((names.map V.str).length : Int) ≤ 5)) (ev_var rfl) (ev_lenT (ev_var rfl) (hN.sq (Ex.refl H))) rv_I0 fun _ => ⟨_, ev_var rfl, rv_I0⟩) ?_))) fun H1 e1 => ?_
    · rw [hl, decide_eq_true (by omega), decide_eq_true (by omega)]
      rfl
    · refine s_ret (v := .bl true) (ev_and2 (ev_eqNil0 ?_) (ev_eqI (ev_lenSetN (ev_var rfl) (e1 _ _ hN.at_) nd (by omega)) (ev_lenT (ev_var rfl) (hN.sq e1)) (by rw [hl]; exact decide_eq_true rfl))) fun H4 e4 => k.go (e1.trans e4)
      refine el_is (el_lcT (fun _ => false) (fun _ => .non) (ev_var rfl) (hN.sq e1) (by rw [List.length_map]; omega) (fun x => rfl) (fun i x H2 e2 hx => ?_) (fun i x H2 e2 hx hf => nomatch hf)) (given_none fun _ _ => rfl)
      rw [List.getElem?_map] at hx
      cases q : names[i]? with
      | none =>
        rw [q] at hx
        cases hx
      | some y =>
        rw [q] at hx
        cases hx
        have hy := hN.nm y (List.mem_of_getElem? q)
        refine et_not (a := true) (et_B (ev_call (ea_cons (ev_var rfl) ea_nil) fun H4 e4 Q' q E' => ⟨y, rfl, by have := (isName_spec hy).2.1; omega, asc_name hy, ?_⟩))
        rw [hy]
        exact q
theorem inner_at {H : Hp} {v : V} {p : Pt} (h : Td H (eP p) v) : ∃ (ad : Addr) (lit : Str) (rs : List V), v = .ref ad ∧ H ad = some (.tup (.str lit :: rs)) ∧ TdL H ((inner p).map eB) (innerV lit rs) ∧
    ((lit = "if" ∧ ∃ t b c, rs = [t, b, c]) ∨ ((lit = "while" ∨ lit = "repeat") ∧ ∃ t b, rs = [t, b]) ∨ (lit ∉ (["if", "while", "repeat"] : List Str))) := by
  have y : ∀ {lit : Str} {rs : List V}, lit ∈ (["if", "while", "repeat"] : List Str) → innerV lit rs = rs.tail := fun h => if_pos h
  have n : ∀ {lit : Str} {rs : List V}, lit ∉ (["if", "while", "repeat"] : List Str) → innerV lit rs = [] := fun h => if_neg h
  cases p <;> rw [eP] at h
  case ifP s z b c =>
    obtain ⟨ad, xs, rfl, had, v0, rs, rfl, e0, v1, r1, rfl, q1, v2, r2, rfl, q2, v3, r3, rfl, q3, q4⟩ := h
    cases (show v0 = .str "if" from e0)
    cases (show r3 = [] from q4)
    exact ⟨ad, "if", _, rfl, had, by rw [y (by decide +kernel)]; exact ⟨v2, [v3], rfl, q2, v3, [], rfl, q3, rfl⟩, .inl ⟨rfl, v1, v2, v3, rfl⟩⟩
  case whl s z b =>
    obtain ⟨ad, xs, rfl, had, v0, rs, rfl, e0, v1, r1, rfl, q1, v2, r2, rfl, q2, q4⟩ := h
    cases (show v0 = .str "while" from e0)
    cases (show r2 = [] from q4)
    exact ⟨ad, "while", _, rfl, had, by rw [y (by decide +kernel)]; exact ⟨v2, [], rfl, q2, rfl⟩, .inr (.inl ⟨.inl rfl, v1, v2, rfl⟩)⟩
  case rep n b =>
    obtain ⟨ad, xs, rfl, had, v0, rs, rfl, e0, v1, r1, rfl, q1, v2, r2, rfl, q2, q4⟩ := h
    cases (show v0 = .str "repeat" from e0)
    cases (show r2 = [] from q4)
    exact ⟨ad, "repeat", _, rfl, had, by rw [y (by decide +kernel)]; exact ⟨v2, [], rfl, q2, rfl⟩, .inr (.inl ⟨.inr rfl, v1, v2, rfl⟩)⟩
  all_goals
    obtain ⟨ad, xs, rfl, had, v0, rs, rfl, e0, q⟩ := h
    cases (show v0 = .str _ from e0)
    exact ⟨ad, _, rs, rfl, had, by rw [n (by decide +kernel)]; rfl, .inr (.inr (by decide +kernel))⟩
theorem c_blocks_in (T : Txt K mg w a) : CalG CX0 P w K mg base 1 "blocks_in" spBlocksIn [] := by
  obtain ⟨f, fd, D, hm⟩ := T.d_blocks_in
  refine ⟨f, fd, _, _, D.ok sc_blocks_in (fun vs H Q E h => ?_) (fun cdv A outer s H vs Q E hr h => ⟨_, PSs.nox ((pss_cons (ps_if (pt_cmpR op_eq (pe_ix ix_tup (pv 0) pe_int (fun _ _ => rfl)) pe_str (nomark _)) (pss_one (ps_ret (pe_lst (pa_cons (pe_ix ix_tup (pv 0) pe_int (fun _ _ => rfl)) (pa_cons (pe_ix ix_tup (pv 0) pe_int (fun _ _ => rfl)) pa_nil))))) pss_nil)
      (pss_one (ps_ret (pe_ifExp (pt_cmpR op_in_seq (pe_ix ix_tup (pv 0) pe_int (fun _ _ => rfl)) (pe_tup (pa_cons pe_str (pa_cons pe_str pa_nil))) (by rfl)) (pe_lst (pa_cons (pe_ix ix_tup (pv 0) pe_int (fun _ _ => rfl)) pa_nil)) (pe_lst pa_nil)))))), ?_⟩), hm, D.kp, D.bindsN (fun _ _ _ _ _ _ us hl => match us, hl with | [_], _ => rfl), .nil⟩
  · obtain ⟨ad, lit, rs, p, rfl, _⟩ := h
    rfl
  · obtain ⟨ad, lit, rs, p, rfl, had, hv, k⟩ := h
    obtain ⟨ad', lit', rs', ea, had', _, hc⟩ := inner_at hv
    cases ea
    rw [had] at had'
    cases had'
    have hT : ∀ H1, Ex H H1 → SqT K H1 ad (.str lit :: rs) := fun H1 e => sumT e had
    rcases hc with ⟨rfl, t, b, c, rfl⟩ | ⟨hl, t, b, rfl⟩ | hl
    · refine q_yes (et_w (ev_op (ev_var rfl) ev_c (rv_ixT (hT _ (Ex.refl H)) (atI_nat (j := 0) rfl))) (decide_eq_true rfl)) fun H1 e1 => ?_
      have e : innerV "if" [t, b, c] = [b, c] := if_pos (by decide +kernel)
      rw [e] at k
      exact s_retL (el_lst (ea_cons (ev_op (ev_var rfl) ev_c (rv_ixT (hT _ e1) (atI_nat (j := 2) rfl))) (ea_cons (ev_op (ev_var rfl) ev_c (rv_ixT (hT _ e1) (atI_nat (j := 3) rfl))) ea_nil)) (by simp)) fun p H2 hp e2 h2 => k.go e1 hp e2 h2
    · have e : innerV lit [t, b] = [b] := if_pos (by rcases hl with rfl | rfl <;> decide +kernel)
      rw [e] at k
      refine q_no (et_w (ev_op (ev_var rfl) ev_c (rv_ixT (hT _ (Ex.refl H)) (atI_nat (j := 0) rfl))) (by rcases hl with rfl | rfl <;> decide +kernel)) fun H1 e1 => ?_
      refine s_retL (xs := [b]) ?_ fun p H2 hp e2 h2 => k.go e1 hp e2 h2
      exact el_if (b := true) (et_is (et_test (ev_inUs (l := ["while", "repeat"]) (ev_op (ev_var rfl) ev_c (rv_ixT (hT _ e1) (atI_nat (j := 0) rfl))) (ea_cons ev_c (ea_cons ev_c ea_nil)) (by decide))) (by rcases hl with rfl | rfl <;> decide +kernel))
        (fun _ => el_lst (ea_cons (ev_op (ev_var rfl) ev_c (rv_ixT (hT _ e1) (atI_nat (j := 2) rfl))) ea_nil) (by simp)) fun h => nomatch h
    · have e : innerV lit rs = [] := if_neg hl
      rw [e] at k
      simp only [List.mem_cons, List.not_mem_nil, or_false, not_or] at hl
      refine q_no (et_w (ev_op (ev_var rfl) ev_c (rv_ixT (hT _ (Ex.refl H)) (atI_nat (j := 0) rfl))) (decide_eq_false hl.1)) fun H1 e1 => ?_
      refine s_retL (xs := []) ?_ fun p H2 hp e2 h2 => k.go e1 hp e2 h2
      refine el_if (b := false) (et_is (et_test (ev_inUs (l := ["while", "repeat"]) (ev_op (ev_var rfl) ev_c (rv_ixT (hT _ e1) (atI_nat (j := 0) rfl))) (ea_cons ev_c (ea_cons ev_c ea_nil)) (by decide))) (decide_eq_false ?_))
        (fun h => nomatch h) fun _ => el_lst ea_nil (by simp)
      simp only [List.mem_cons, List.not_mem_nil, or_false, not_or]
      exact hl.2
theorem given_all {n : Nat} {v : Nat → V} : given n (fun _ => true) v = (List.range n).map v := by
  unfold given
  rw [List.filter_eq_self.mpr fun _ _ => rfl]
theorem range_get {α β : Type} (l : List α) (f : α → β) (d : α) : (List.range l.length).map (fun i => f (l.getD i d)) = l.map f := by
  refine List.ext_getElem (by simp) fun i h1 h2 => ?_
  have hi : i < l.length := by simpa using h2
  simp [List.getD_eq_getElem?_getD, List.getElem?_eq_getElem hi]
theorem ev_sum {σ : L2.St} {H : Hp} {te : TE} {ns : List Int} (h : EvL te σ H (ns.map V.int)) : Ev (tCB (rSum K) (tCons te tNil)) σ H (.int ns.sum) := fun H1 e Q q =>
  h H1 e _ fun p H2 _ e2 h2 => ⟨p, ns, rfl, sq_of h2, q H2 e2⟩
theorem sz_take {b : List Pt} {i : Nat} {p : Pt} (h : b[i]? = some p) : szB (b.take (i + 1)) = szB (b.take i) + szP p := by
  induction b generalizing i with
  | nil => simp at h
  | cons q r ih =>
    cases i with
    | zero =>
      cases (Option.some.inj h : q = p)
      simp only [List.take_succ_cons, List.take_zero, szB]
      omega
    | succ i =>
      simp only [List.take_succ_cons, szB, ih h]
      omega
theorem sum_cast (l : List Nat) : ((l.map fun n : Nat => (n : Int)).sum) = ((l.sum : Nat) : Int) := by
  induction l with
  | nil => rfl
  | cons x l ih =>
    rw [List.map_cons, List.sum_cons, ih, List.sum_cons, Int.natCast_add]
theorem le_sum {x : Nat} : ∀ {l : List Nat}, x ∈ l → x ≤ l.sum
  | [], h => by cases h
  | y :: l, h => by
    rw [List.sum_cons]
    rcases List.mem_cons.mp h with e | e
    · omega
    · have := le_sum e
      omega
theorem b_parts (T : Txt K mg w a) : ∀ n, CalG CX0 P w K mg base (n + 1) "parts_in" (spParts n) []
  | 0 => by
    obtain ⟨f, fd, D, hm⟩ := T.d_parts_in
    exact ⟨f, fd, ["block"], [], FnOk.never fun vs H Q E h => by
      obtain ⟨_, _, _, _, h, _⟩ := h
      omega, hm, D.kp, D.bindsN (fun _ _ _ _ _ _ us hl => match us, hl with | [_], _ => rfl), .nil⟩
  | n + 1 => by
    have C_parts_in : CalG CX0 P w K mg base (n + 1) "parts_in" (spParts n) [] := b_parts T n
    have C_blocks_in : CalG CX0 P w K mg base 1 "blocks_in" spBlocksIn [] := c_blocks_in T
    obtain ⟨f, fd, D, hm⟩ := T.d_parts_in
    refine ⟨f, fd, _, _, D.ok sc_parts_in (fun vs H Q E h => ?_) (fun cdv A outer s H vs Q E hr h => ⟨_, PSs.nox ((pss_cons (ps_set (i := 1) sc_parts_in.nd rfl (Or.inl rfl) pe_int)
      (pss_cons (ps_for PassesOwn.never rfl (pi_tup (pv 0)) (pg_name (i := 2) sc_parts_in.nd rfl (Or.inl rfl)) (pss_one (ps_aug (i := 1) sc_parts_in.nd rfl (Or.inl rfl) (pe_op op_add pe_int (pe_callB (cr_sum rfl) (by rfl) T.b_sum (by decide +kernel) (pa_cons (pe_lc (own := [("inner", 3)]) rfl sc_parts_in.nd (pi_list (pe_f0 C_blocks_in hr (by omega) (by rfl) (pa_cons (pv 2) pa_nil))) (blkOk_by (N := ["block", "found", "part", "inner"]) (sc := defScope st_parts_in) (by decide +kernel)) (fun _ _ _ _ _ => (pg_name (i := 3) sc_parts_in.nd rfl (Or.inl rfl))) (fun _ _ _ _ _ => pts_nil) (fun _ _ _ _ _ => (pe_f0 C_parts_in hr (by omega) (by rfl) (pa_cons (pv 3) pa_nil)))) pa_nil))) ip_add)))
      (pss_one (ps_ret (pv 1)))))), ?_⟩), hm, D.kp, D.bindsN (fun _ _ _ _ _ _ us hl => match us, hl with | [_], _ => rfl), .nil⟩
    · obtain ⟨v, b, rfl, _⟩ := h
      rfl
    · obtain ⟨v, b, rfl, hv, hh, hz, k⟩ := h
      obtain ⟨ad, xs, rfl, had, hxs⟩ := id hv
      have hlen : xs.length = b.length := by
        rw [TdL.len hxs, ePs_map, List.length_map]
      refine q_asg ev_c fun H1 e1 => ?_
      refine q_forT (xs := xs) (ev_var rfl) (sumT e1 had) (fun i σ' H' => ∃ x : Option V, σ' = [some (.ref ad), some (.int (szB (b.take i))), x, none] ∧ Ex H H') (fun H2 e2 => ⟨none, rfl, e1.trans e2⟩) (fun i σ' H' _ ⟨_, _, e⟩ => sumT e had) ?_ ?_
      · rintro i x σ' H' hx ⟨x0, rfl, e⟩
        obtain ⟨dt, hdt, htd⟩ := hxs.get hx
        obtain ⟨p, hp, rfl⟩ := ePs_get hdt
        have htp := htB_get hp
        have hzp := szB_get hp
        obtain ⟨pa, lit, rs, rfl, hpa, hin, _⟩ := inner_at (htd.ex e)
        have hsum : ((szB (b.take i) : Nat) : Int) + (1 + ((((inner p).map szB).map fun n : Nat => (n : Int)).sum)) = ((szB (b.take (i + 1)) : Nat) : Int) := by
          rw [sum_cast, sz_take hp, sz_inner p, Int.natCast_add, Int.natCast_add]
          rfl
        refine s_aug (a := (szB (b.take i) : Nat)) (b := 1 + ((((inner p).map szB).map fun n : Nat => (n : Int)).sum)) rfl (ev_op ev_c (ev_sum ?_) rv_I0) fun H2 e2 => ⟨_, by rw [← hsum]; rfl, e.trans e2⟩
        have hil : (innerV lit rs).length = (inner p).length := by rw [TdL.len hin, List.length_map]
        have hi2 : (inner p).length ≤ 2 := by cases p <;> simp [inner]
        refine el_is (el_lcNL (fun _ => true) (fun i => .int ((szB ((inner p).getD i []) : Nat) : Int)) (el_call (ea_cons (ev_var rfl) ea_nil) (xs := innerV lit rs) fun H3 e3 Q' q E' => ⟨pa, lit, rs, p, rfl, e3 _ _ hpa, htd.ex (e.trans e3), fun r H4 hr e4 h4 => q r H4 hr e4 h4⟩)
          (by omega) (fun x => rfl) (fun j y H3 e3 hy H4 e4 Q' q => q H4 (Ex.refl H4)) (fun j y H3 e3 hy _ => ?_)) ?_
        · obtain ⟨d2, hd2, ht2⟩ := hin.get hy
          rw [List.getElem?_map] at hd2
          cases q : (inner p)[j]? with
          | none =>
            rw [q] at hd2
            cases hd2
          | some b2 =>
            rw [q] at hd2
            cases hd2
            have hm2 := List.mem_of_getElem? q
            have h1 := ht_inner hm2
            have h2 : szB b2 < szP p := by
              rw [sz_inner p]
              have := le_sum (List.mem_map.mpr ⟨b2, hm2, rfl⟩ : szB b2 ∈ (inner p).map szB)
              omega
            rw [List.getD_eq_getElem?_getD, q]
            exact ev_call (ea_cons (ev_var rfl) ea_nil) fun H4 e4 Q' q' E' => ⟨y, b2, rfl, (ht2.ex e3).ex e4, by omega, by omega, q'⟩
        · rw [given_all, hil, range_get (inner p) (fun b => V.int ((szB b : Nat) : Int)) [], List.map_map, List.map_map]
          rfl
      · rintro σ' H' ⟨x0, rfl, e⟩
        refine s_ret (v := .int (szB b)) ?_ fun H4 e4 => k.go (e.trans e4)
        rw [hlen, List.take_length]
        exact ev_var rfl
theorem c_parts_in (T : Txt K mg w a) : CalG CX0 P w K mg base 7 "parts_in" (spParts 6) [] := b_parts T 6

/-! ### tuples, new or old -/
def EvW (te : TE) (σ : L2.St) (H : Hp) (xs : List V) : Prop := ∀ H1, Ex H H1 → ∀ Q : VK, (∀ p H2, Ex H1 H2 → H2 p = some (.tup xs) → Q (.ref p) H2) → te σ H1 Q
section
variable {σ : L2.St} {H : Hp} {ta tb te : TE} {D : Ends} {tz : TS} {v w x y : V}
theorem ew_cat {p : Addr} {xs ys : List V} (ha : Ev ta σ H (.ref p)) (hp : H p = some (.tup xs)) (hb : EvU tb σ H ys) (hl : xs.length + ys.length ≤ 100000) : EvW (tOp (rCatA K) ta tb) σ H (xs ++ ys) := fun H1 e Q k =>
  ha H1 e _ fun H2 e2 => hb H2 (e.trans e2) _ fun q H3 _ e3 hq => ⟨p, q, xs, ys, rfl, rfl, st_of (e3 _ _ (e2 _ _ (e _ _ hp))), st_of hq, sz_of hl, fun h => by
    subst h
    exact k q H3 (e2.trans e3) hq, fun h1 h2 => by
    subst h2
    rw [List.append_nil] at k
    exact k p H3 (e2.trans e3) (e3 _ _ (e2 _ _ (e _ _ hp))), fun h1 h2 r hr => k r _ ((e2.trans e3).trans (Ex.new hr)) upd_same⟩
theorem s_parW {i j : Nat} {xs : List V} (h1 : EvW ta σ H xs) (h2 : Ev tb σ H w) (k : ∀ p H1, Ex H H1 → H1 p = some (.tup xs) → D.nx ((σ.set i (some (.ref p))).set j (some w)) H1) : tPar i j (tCons ta (tCons tb tNil)) D σ H :=
  h1 H (Ex.refl H) _ fun p H1 e1 hp => h2 H1 e1 _ fun H2 e2 => ⟨.ref p, w, rfl, k p H2 (e1.trans e2) (e2 _ _ hp)⟩
theorem q_parW {i j : Nat} {xs : List V} (h1 : EvW ta σ H xs) (h2 : Ev tb σ H w) (k : ∀ p H1, Ex H H1 → H1 p = some (.tup xs) → tz D ((σ.set i (some (.ref p))).set j (some w)) H1) : tSeq (tPar i j (tCons ta (tCons tb tNil))) tz D σ H :=
  s_parW (D := { D with nx := tz D }) h1 h2 k
/-- a, b = (.., ..), the pair laid as a tuple -/
theorem q_asg2 {i j : Nat} {xs : List V} (h1 : EvW ta σ H xs) (h2 : Ev tb σ H w) (k : ∀ p H1, Ex H H1 → H1 p = some (.tup xs) → tz D ((σ.set i (some (.ref p))).set j (some w)) H1) :
    tSeq (tAsg (tTup (tCons ta (tCons tb tNil))) (gTup K 2 (gCons (gName i) (gCons (gName j) gNil)))) tz D σ H :=
  h1 H (Ex.refl H) _ fun p H1 e1 hp => h2 H1 e1 _ fun H2 e2 => ⟨by show 2 ≤ sizeLine; decide, fun t ht => ⟨t, _, rfl, st_of upd_same, rfl, .ref p, _, rfl, w, _, rfl, rfl, k p _ ((e1.trans e2).trans (Ex.new ht)) (Ex.new ht _ _ (e2 _ _ hp))⟩⟩
theorem ew_of {xs : List V} (h : EvU ta σ H xs) : EvW ta σ H xs := fun H1 e Q k => h H1 e Q fun p H2 _ e2 h2 => k p H2 e2 h2
/-- a, b, c = t -/
theorem q_tup3 {i j l : Nat} {p : Addr} {x y z : V} (h : Ev te σ H (.ref p)) (hp : SqT K H p [x, y, z]) (k : ∀ H1, Ex H H1 → tz D (((σ.set i (some x)).set j (some y)).set l (some z)) H1) :
    tSeq (tAsg te (gTup K 3 (gCons (gName i) (gCons (gName j) (gCons (gName l) gNil))))) tz D σ H := h H (Ex.refl H) _ fun H1 e => ⟨p, _, rfl, ex_t e hp, rfl, x, _, rfl, y, _, rfl, z, _, rfl, rfl, k H1 e⟩
end
def spNeed : Sp := fun vs H Q _ => ∃ (v : V) (p : Pg), vs = [v] ∧ Td H (eG p) v ∧ okPg p ∧ RetV .non H Q
theorem szProcs_take {ps : List (Str × List Pt)} {i : Nat} {q : Str × List Pt} (h : ps[i]? = some q) : szProcs (ps.take (i + 1)) = szProcs (ps.take i) + szB q.2 := by
  induction ps generalizing i with
  | nil => simp at h
  | cons p r ih =>
    cases i with
    | zero =>
      cases (Option.some.inj h : p = q)
      simp only [List.take_succ_cons, List.take_zero, szProcs]
      omega
    | succ i =>
      simp only [List.take_succ_cons, szProcs, ih h]
      omega
theorem szProcs_le {ps : List (Str × List Pt)} : ∀ i, szProcs (ps.take i) ≤ szProcs ps := by
  induction ps with
  | nil => intro i; simp [szProcs]
  | cons p r ih =>
    intro i
    cases i with
    | zero => simp [szProcs]
    | succ i =>
      have := ih i
      simp only [List.take_succ_cons, szProcs]
      omega
theorem okProcs_get {names : List Str} : ∀ {ps : List (Str × List Pt)} {done : List Str} {i : Nat} {q : Str × List Pt}, okProcs names done ps → ps[i]? = some q → isName q.1 = true ∧ q.1 ∉ done ++ (ps.take i).map (·.1) ∧ okB names (done ++ (ps.take i).map (·.1)) 1 q.2
  | [], done, i, q, _, h => by simp at h
  | p :: r, done, 0, q, h, e => by
    cases (Option.some.inj e : p = q)
    rw [okProcs] at h
    simp only [List.take_zero, List.map_nil, List.append_nil]
    exact ⟨h.1, h.2.1, h.2.2.1⟩
  | p :: r, done, i + 1, q, h, e => by
    rw [okProcs] at h
    have := okProcs_get (i := i) h.2.2.2 e
    rw [List.take_succ_cons, List.map_cons]
    rw [List.append_assoc] at this
    exact this
theorem okProcs_names {names : List Str} : ∀ {ps : List (Str × List Pt)} {done : List Str}, okProcs names done ps → ∀ x ∈ ps.map (·.1), isName x = true
  | [], done, _, x, h => by cases h
  | p :: r, done, h, x, hx => by
    rw [okProcs] at h
    rw [List.map_cons] at hx
    rcases List.mem_cons.mp hx with e | e
    · rw [e]
      exact h.1
    · exact okProcs_names h.2.2.2 x e
theorem c_need (T : Txt K mg w a) : CalG CX0 P w K mg base 24 "need_block_program" spNeed [] := by
  have C_is_name : CalG CX0 P w K mg base 1 "is_name" spIsName [] := c_is_name T
  have C_are_unlike_names : CalG CX0 P w K mg base 2 "are_unlike_names" spUnlike [] := c_are_unlike_names T
  have C_is_block : CalG CX0 P w K mg base 23 "is_block" (spIsBlock 6) [] := c_is_block T
  have C_parts_in : CalG CX0 P w K mg base 7 "parts_in" (spParts 6) [] := c_parts_in T
  obtain ⟨f, fd, D, hm⟩ := T.d_need_block_program
  refine ⟨f, fd, _, _, D.ok sc_need_block_program (fun vs H Q E h => ?_) (fun cdv A outer s H vs Q E hr h => ⟨_, PSs.nox ((pss_cons (ps_if (PW.pt (pw_or (pt_not (pt_val (pe_callB call_isi (by rfl) T.b_isinstance (by decide +kernel) (pa_cons (pv 0) (pa_cons (pe_bltn (by rfl) T.b_tuple (by decide +kernel) (show RelV (.ty "tuple") (.type "tuple") from rfl)) pa_nil))))) (pw_or (pt_cmpR op_ne (pe_callB call_len_seq (by rfl) T.b_len (by decide +kernel) (pa_cons (pv 0) pa_nil)) pe_int (nomark _)) (pw_or1 (pt_not (pt_val (pe_f0 C_are_unlike_names hr (by omega) (by rfl) (pa_cons (pe_ix ix_tup (pv 0) pe_int (fun _ _ => rfl)) (pa_cons pe_int (pa_cons (C8.pe_gc (by rfl) T.g_MOST_PLACES) pa_nil)))))))))) (pss_one ps_never) pss_nil)
      (pss_cons (ps_asg (pv 0) (pg_tup (by rfl) (pgs_cons (pg_name (i := 1) sc_need_block_program.nd rfl (Or.inl rfl)) (pgs_cons (pg_name (i := 2) sc_need_block_program.nd rfl (Or.inl rfl)) (pgs_cons (pg_name (i := 3) sc_need_block_program.nd rfl (Or.inl rfl)) pgs_nil)))))
      (pss_cons (ps_if (PW.pt (pw_or (pt_not (pt_val (pe_callB call_isi (by rfl) T.b_isinstance (by decide +kernel) (pa_cons (pv 2) (pa_cons (pe_bltn (by rfl) T.b_tuple (by decide +kernel) (show RelV (.ty "tuple") (.type "tuple") from rfl)) pa_nil))))) (pw_or1 (pt_cmpR op_gt (pe_callB call_len_seq (by rfl) T.b_len (by decide +kernel) (pa_cons (pv 2) pa_nil)) (C8.pe_gc (by rfl) T.g_MOST_PROCEDURES) (nomark _))))) (pss_one ps_never) pss_nil)
      (pss_cons (ps_asg (pe_tup (pa_cons (pe_tup pa_nil) (pa_cons pe_int pa_nil))) (pg_tup (by rfl) (pgs_cons (pg_name (i := 4) sc_need_block_program.nd rfl (Or.inl rfl)) (pgs_cons (pg_name (i := 5) sc_need_block_program.nd rfl (Or.inl rfl)) pgs_nil))))
      (pss_cons (ps_for PassesOwn.never rfl (pi_tup (pv 2)) (pg_name (i := 6) sc_need_block_program.nd rfl (Or.inl rfl)) (pss_cons (ps_if (PW.pt (pw_or (pt_not (pt_val (pe_callB call_isi (by rfl) T.b_isinstance (by decide +kernel) (pa_cons (pv 6) (pa_cons (pe_bltn (by rfl) T.b_tuple (by decide +kernel) (show RelV (.ty "tuple") (.type "tuple") from rfl)) pa_nil))))) (pw_or (pt_cmpR op_ne (pe_callB call_len_seq (by rfl) T.b_len (by decide +kernel) (pa_cons (pv 6) pa_nil)) pe_int (nomark _)) (pw_or1 (pt_not (pt_val (pe_f0 C_is_name hr (by omega) (by rfl) (pa_cons (pe_ix ix_tup (pv 6) pe_int (fun _ _ => rfl)) pa_nil)))))))) (pss_one ps_never) pss_nil)
      (pss_cons (ps_if (PW.pt (pw_or (pt_cmpR op_in_seq (pe_ix ix_tup (pv 6) pe_int (fun _ _ => rfl)) (pv 4) (by rfl)) (pw_or1 (pt_not (pt_val (pe_f0 C_is_block hr (by omega) (by rfl) (pa_cons (pv 1) (pa_cons (pv 4) (pa_cons (pe_ix ix_tup (pv 6) pe_int (fun _ _ => rfl)) (pa_cons pe_int pa_nil)))))))))) (pss_one ps_never) pss_nil)
      (pss_one (ps_par (i := 4) (j := 5) (by rfl) sc_need_block_program.nd rfl rfl (by decide) rfl rfl (pa_cons (pe_op op_catA (pv 4) (pe_tup (pa_cons (pe_ix ix_tup (pv 6) pe_int (fun _ _ => rfl)) pa_nil))) (pa_cons (pe_op op_add (pv 5) (pe_f0 C_parts_in hr (by omega) (by rfl) (pa_cons (pe_ix ix_tup (pv 6) pe_int (fun _ _ => rfl)) pa_nil))) pa_nil)) (by rfl))))))
      (pss_one (ps_if (PW.pt (pw_or (pt_not (pt_val (pe_f0 C_is_block hr (by omega) (by rfl) (pa_cons (pv 1) (pa_cons (pv 4) (pa_cons (pv 3) (pa_cons pe_int pa_nil))))))) (pw_or1 (pt_cmpR op_gt (pe_op op_add (pv 5) (pe_f0 C_parts_in hr (by omega) (by rfl) (pa_cons (pv 3) pa_nil))) (C8.pe_gc (by rfl) T.g_MOST_PARTS) (nomark _))))) (pss_one ps_never) pss_nil)))))))), ?_⟩), hm, D.kp, D.bindsN (fun _ _ _ _ _ _ us hl => match us, hl with | [_], _ => rfl), .nil⟩
  · obtain ⟨v, p, rfl, _⟩ := h
    rfl
  · obtain ⟨v, p, rfl, hv, hp, k⟩ := h
    obtain ⟨ad, xs, rfl, had, v1, r1, rfl, ⟨na, ns, rfl, hna, hns⟩, v2, r2, rfl, ⟨pa, ps, rfl, hpa, hps⟩, v3, r3, rfl, hb, q4⟩ := hv
    cases (show r3 = [] from q4)
    have hns' := hns.strs
    subst hns'
    have hN : Names H na p.names := ⟨hna, hp.nm⟩
    have hT : ∀ H1, Ex H H1 → SqT K H1 ad [.ref na, .ref pa, v3] := fun H1 e => sumT e had
    have hpl : ps.length = p.procs.length := by rw [TdL.len hps, List.length_map]
    have hn5 := hp.n5
    have hn1 := hp.n1
    have hp4 := hp.pl
    have hsz := hp.sz
    refine q_no (et_or (a := false) (b := false) (et_not (a := true) (et_B (ev_isi (ev_var rfl) ev_c (fun _ e => ty_tup (e _ _ had)) k_tuple_tuple))) fun _ =>
      et_or (a := false) (b := false) (et_test (ev_neI (ev_lenT (ev_var rfl) (hT _ (Ex.refl H))) ev_c rfl)) fun _ =>
      et_not (a := true) (et_B (ev_call (ea_cons (ev_op (ev_var rfl) ev_c (rv_ixT (hT _ (Ex.refl H)) (atI_nat (j := 0) rfl))) (ea_cons ev_c (ea_cons ev_c ea_nil))) fun H4 e4 Q' q E' => ⟨na, p.names, rfl, hN.ex e4, hp.nd, hn1, hn5, q⟩))) fun H1 e1 => ?_
    refine q_tup3 (ev_var rfl) (hT _ e1) fun H2 e2' => ?_
    have e2 := e1.trans e2'
    refine q_no (et_or (a := false) (b := false) (et_not (a := true) (et_B (ev_isi (ev_var rfl) ev_c (fun _ e => ty_tup (e _ _ (e2 _ _ hpa))) k_tuple_tuple))) fun _ =>
      et_is (et_test (ev_op (ev_lenT (ev_var rfl) (sumT e2 hpa)) ev_c rv_I0)) (decide_eq_false (by omega))) fun H3 e3' => ?_
    have e3 := e2.trans e3'
    refine q_asg2 (ew_of (eu_tup ea_nil (Nat.zero_le _))) ev_c fun d0 H4 e4' hd0 => ?_
    have e4 := e3.trans e4'
    refine q_forT (xs := ps) (ev_var rfl) (sumT e4 hpa) (fun i σ' H' => ∃ (x : Option V) (da : Addr), σ' = [some (.ref ad), some (.ref na), some (.ref pa), some v3, some (.ref da), some (.int (szProcs (p.procs.take i) : Nat)), x] ∧
      H' da = some (.tup (((p.procs.take i).map (·.1)).map V.str)) ∧ Ex H H') (fun H5 e5 => ⟨none, d0, rfl, e5 _ _ hd0, e4.trans e5⟩) (fun i σ' H' _ ⟨_, _, _, _, e⟩ => sumT e hpa) ?_ ?_
    · rintro i x σ' H' hx ⟨x0, da, rfl, hda, e⟩
      obtain ⟨dt, hdt, htd⟩ := hps.get hx
      rw [List.getElem?_map] at hdt
      cases hq : p.procs[i]? with
      | none =>
        rw [hq] at hdt
        cases hdt
      | some q =>
        rw [hq] at hdt
        cases hdt
        obtain ⟨qa, ys, rfl, hqa, w1, s1, rfl, f1, w2, s2, rfl, f2, f3⟩ := htd
        cases (show w1 = .str q.1 from f1)
        cases (show s2 = [] from f3)
        obtain ⟨g1, g2, g3⟩ := okProcs_get hp.pr hq
        rw [List.nil_append] at g2 g3
        have hD : Names H' da ((p.procs.take i).map (·.1)) := ⟨hda, fun y hy => okProcs_names hp.pr y (by
          obtain ⟨z, hz, ez⟩ := List.mem_map.mp hy
          exact List.mem_map.mpr ⟨z, List.mem_of_mem_take hz, ez⟩)⟩
        have hQ : ∀ H1, Ex H' H1 → SqT K H1 qa [.str q.1, w2] := fun H1 e1 => sumT (e.trans e1) hqa
        have hzi := szProcs_le (ps := p.procs) (i + 1)
        rw [szProcs_take hq] at hzi
        have hi4 : (p.procs.take i).length ≤ 4 := by rw [List.length_take]; omega
        refine q_no (et_or (a := false) (b := false) (et_not (a := true) (et_B (ev_isi (ev_var rfl) ev_c (fun _ e1 => ty_tup (e1 _ _ (e _ _ hqa))) k_tuple_tuple))) fun _ =>
          et_or (a := false) (b := false) (et_test (ev_neI (ev_lenT (ev_var rfl) (hQ _ (Ex.refl H'))) ev_c rfl)) fun _ =>
          et_not (a := true) (et_B (ev_call (ea_cons (ev_op (ev_var rfl) ev_c (rv_ixT (hQ _ (Ex.refl H')) (atI_nat (j := 0) rfl))) ea_nil) fun H5 e5 Q' r E' => ⟨q.1, rfl, by have := (isName_spec g1).2.1; omega, asc_name g1, by rw [g1]; exact r⟩))) fun H5 e5 => ?_
        refine q_no (et_or (a := false) (b := false) (et_is (et_test (ev_op (ev_op (ev_var rfl) ev_c (rv_ixT (hQ _ e5) (atI_nat (j := 0) rfl))) (ev_var rfl) (rv_inTs (hD.sq e5)))) (decide_eq_false g2)) fun _ =>
          et_not (a := true) (et_B (ev_call (ea_cons (ev_var rfl) (ea_cons (ev_var rfl) (ea_cons (ev_op (ev_var rfl) ev_c (rv_ixT (hQ _ e5) (atI_nat (j := 1) rfl))) (ea_cons ev_c ea_nil))))
            fun H6 e6 Q' r E' => ⟨na, da, p.names, (p.procs.take i).map (·.1), w2, q.2, 1, rfl, hN.ex ((e.trans e5).trans e6), hD.ex (e5.trans e6), f2.ex ((e.trans e5).trans e6), g3, by omega, by omega, by omega, r⟩))) fun H6 e6' => ?_
        have e6 := e5.trans e6'
        refine s_parW (ew_cat (ev_var rfl) (e6 _ _ hda) (eu_tup (ea_cons (ev_op (ev_var rfl) ev_c (rv_ixT (hQ _ e6) (atI_nat (j := 0) rfl))) ea_nil) (by simp)) (by rw [List.length_map, List.length_map]; show _ + 1 ≤ _; omega))
          (ev_op (ev_var rfl) (ev_call (z := .int (szB q.2)) (ea_cons (ev_op (ev_var rfl) ev_c (rv_ixT (hQ _ e6) (atI_nat (j := 1) rfl))) ea_nil) fun H7 e7 Q' r E' => ⟨w2, q.2, rfl, f2.ex ((e.trans e6).trans e7), by have := ht_okB q.2 1 g3 (by omega); omega, by omega, r⟩) rv_I0) fun da2 H7 e7 hda2 => ?_
        refine ⟨some (.ref qa), da2, ?_, ?_, (e.trans e6).trans e7⟩
        · rw [szProcs_take hq, Int.natCast_add]
          rfl
        · rw [hda2, List.take_add_one, hq]
          simp
    · rintro σ' H' ⟨x0, da, rfl, hda, e⟩
      rw [hpl, List.take_length] at hda
      have hD : Names H' da (p.procs.map (·.1)) := ⟨hda, okProcs_names hp.pr⟩
      refine s_if (b := false) (et_or (a := false) (b := false) (et_not (a := true) (et_B (ev_call (ea_cons (ev_var rfl) (ea_cons (ev_var rfl) (ea_cons (ev_var rfl) (ea_cons ev_c ea_nil))))
        fun H6 e6 Q' r E' => ⟨na, da, p.names, p.procs.map (·.1), v3, p.block, 1, rfl, hN.ex (e.trans e6), hD.ex e6, hb.ex (e.trans e6), hp.bl, by omega, by omega, by omega, r⟩))) fun _ =>
        et_is (et_test (ev_op (ev_op (ev_var rfl) (ev_call (z := .int (szB p.block)) (ea_cons (ev_var rfl) ea_nil) fun H7 e7 Q' r E' => ⟨v3, p.block, rfl, hb.ex (e.trans e7), by have := ht_okB p.block 1 hp.bl (by omega); omega, by omega, r⟩) rv_I0) ev_c rv_I0)) ?_) (fun h => nomatch h) fun _ H5 e5 => k.go (e.trans e5)
      rw [hpl, List.take_length]
      exact decide_eq_false (by omega)
end
end RS
end
section
set_option Elab.async false
set_option linter.all false
set_option maxRecDepth 100000
set_option maxHeartbeats 4000000
/-! W5: a program written. -/
namespace RS
open PySem L2 TL Evl
/-! ### numbers as texts -/
theorem str_int (i : Int) : Str.ofString (toString i) = numS i := by
  refine ext_tl ?_
  rw [tl_numS]
  cases i with
  | ofNat n =>
    have h : ¬ (Int.ofNat n) < 0 := by
      intro h
      exact absurd h (by simp)
    unfold numL'
    rw [if_neg h]
    exact tl_num n
  | negSucc n =>
    unfold numL'
    rw [if_pos (Int.negSucc_lt_zero n)]
    show (Str.ofString ("-" ++ toString (n + 1))).cps.toList = _
    rw [PyProof.Rows.signs_ofString, String.toList_append, List.map_append]
    show 45 :: (Nat.repr (n + 1)).toList.map Char.toNat = _
    rw [Nat.toList_repr]
    rfl
theorem log_ok {i : Int} (h : i.natAbs ≤ 100000) : i.natAbs.log2 < 1920 := by
  have : i.natAbs.log2 ≤ i.natAbs := Nat.log2_le_self _
  by_cases z : i.natAbs = 0
  · rw [z]
    decide
  · have := (Nat.log2_lt z (k := 17)).mpr (by omega)
    omega
def rStrI : List V → Hp → VK → Prop := fun xs H Q => ∃ i, xs = [.int i] ∧ i.natAbs.log2 < 1920 ∧ Q (.str (toString i)) H
section
variable {K : PySem.W.Frag} {σ : L2.St} {H H' : Hp} {ta tb tc te : TE} {x y z v w : V} {D : Ends} {tu tz : TS}
theorem ev_strI {i : Int} (h : Ev te σ H (.int i)) (hi : i.natAbs ≤ 100000) : Ev (tCB rStrI (tCons te tNil)) σ H (.str (numS i)) := ev_cb (ea_cons h ea_nil) fun H1 e Q q => ⟨i, rfl, log_ok hi, by
  have := str_int i
  show Q (.str (Str.ofString (toString i))) H1
  rw [this]
  exact q H1 (Ex.refl H1)⟩
/-- two new lists put together -/
theorem el_cat {xs ys : List V} (ha : EvL ta σ H xs) (hb : EvL tb σ H ys) (hl : xs.length + ys.length ≤ 100000) : EvL (tOp rCat ta tb) σ H (xs ++ ys) := fun H1 e Q k =>
  ha H1 e _ fun p H2 hp e2 h2 => hb H2 (e.trans e2) _ fun q H3 hq e3 h3 => ⟨p, q, xs, ys, rfl, rfl, e3 _ _ h2, h3, sz_of hl, fun r hr => k r _ (fresh_back (e2.trans e3) hr) ((e2.trans e3).trans (Ex.new hr)) upd_same⟩
/-- a new list behind one that stands -/
theorem el_catV {p : Addr} {xs ys : List V} (ha : Ev ta σ H (.ref p)) (hp : H p = some (.lst xs)) (hb : EvL tb σ H ys) (hl : xs.length + ys.length ≤ 100000) : EvL (tOp rCat ta tb) σ H (xs ++ ys) := fun H1 e Q k =>
  ha H1 e _ fun H2 e2 => hb H2 (e.trans e2) _ fun q H3 hq e3 h3 => ⟨p, q, xs, ys, rfl, rfl, e3 _ _ (e2 _ _ (e _ _ hp)), h3, sz_of hl, fun r hr => k r _ (fresh_back (e2.trans e3) hr) ((e2.trans e3).trans (Ex.new hr)) upd_same⟩
theorem el_catW {p : Addr} {xs ys : List V} (ha : EvL ta σ H xs) (hb : Ev tb σ H (.ref p)) (hp : H p = some (.lst ys)) (hl : xs.length + ys.length ≤ 100000) : EvL (tOp rCat ta tb) σ H (xs ++ ys) := fun H1 e Q k =>
  ha H1 e _ fun q H2 hq e2 h2 => hb H2 (e.trans e2) _ fun H3 e3 => ⟨q, p, xs, ys, rfl, rfl, e3 _ _ h2, e3 _ _ (e2 _ _ (e _ _ hp)), sz_of hl, fun r hr => k r _ (fresh_back (e2.trans e3) hr) ((e2.trans e3).trans (Ex.new hr)) upd_same⟩
/-- list(t) of a tuple -/
theorem el_listT {p : Addr} {xs : List V} (ha : Ev ta σ H (.ref p)) (h : SqT K H p xs) : EvL (tCB (rListS K) (tCons ta tNil)) σ H xs := fun H1 e Q q =>
  ha H1 e _ fun H2 e2 => ⟨p, xs, rfl, Or.inr (ex_t (e.trans e2) h), fun l hl => q l _ (fresh_back e2 hl) (e2.trans (Ex.new hl)) upd_same⟩
theorem ev_neU {v : V} {ds : List Dt} (hv : Ev ta σ H v) (h : Td H (.tup ds) v) (hA : dtAs ds) : Ev (tOp (rNeM K) ta (tTup tNil)) σ H (.bl (!ds.isEmpty)) :=
  ev_opU hv (eu_tup ea_nil (Nat.zero_le _)) fun p H1 hp e H2 e2 Q q => ⟨_, .tuple [], Td.toDp _ _ (h.ex (e.trans e2)), .tup (st_of (e2 _ _ hp)) .nil, can_of (.tup ds) hA, by decide +kernel, by
    have z : (PyData.tuple []).depth = 1 := by decide +kernel
    rw [z]
    omega, by
    have z : PyData.eqv (toP (.tup ds)) (.tuple []) = ds.isEmpty := by
      cases ds with
      | nil => decide +kernel
      | cons d ds =>
        rw [toP, toPs, PyData.eqv, PyData.eqvAll]
        rfl
    rw [z]
    exact q H2 (Ex.refl H2)⟩
end
/-! ### lists of lists of texts; N tells which places the inner ones may have -/
def LsR (N : Addr → Prop) (H : Hp) : List (List Str) → List V → Prop
  | [], xs => xs = []
  | ws :: ls, xs => ∃ (q : Addr) (r : List V), xs = .ref q :: r ∧ N q ∧ H q = some (.lst (ws.map V.str)) ∧ LsR N H ls r
theorem LsR.len {N : Addr → Prop} {H : Hp} : ∀ {ls : List (List Str)} {xs : List V}, LsR N H ls xs → xs.length = ls.length
  | [], _, h => by rw [show _ = _ from h]; rfl
  | ws :: ls, xs, h => by
    obtain ⟨q, r, e, _, _, h2⟩ := h
    rw [e, List.length_cons, List.length_cons, LsR.len h2]
theorem LsR.mono {N N' : Addr → Prop} {H H' : Hp} (b : ∀ q, N q → N' q) (e : Ex H H') : ∀ {ls : List (List Str)} {xs : List V}, LsR N H ls xs → LsR N' H' ls xs
  | [], _, h => h
  | ws :: ls, xs, h => by
    obtain ⟨q, r, x, h1, h2, h3⟩ := h
    exact ⟨q, r, x, b q h1, e _ _ h2, LsR.mono b e h3⟩
theorem LsR.upd {N : Addr → Prop} {H : Hp} {a : Addr} {o' : HO} (hb : ∀ q, N q → q ≠ a) : ∀ {ls : List (List Str)} {xs : List V}, LsR N H ls xs → LsR N (L2.upd H a o') ls xs
  | [], _, h => h
  | ws :: ls, xs, h => by
    obtain ⟨q, r, x, h1, h2, h3⟩ := h
    exact ⟨q, r, x, h1, by rw [upd_ne (hb q h1)]; exact h2, LsR.upd hb h3⟩
theorem LsR.append {N : Addr → Prop} {H : Hp} : ∀ {ls ms : List (List Str)} {xs ys : List V}, LsR N H ls xs → LsR N H ms ys → LsR N H (ls ++ ms) (xs ++ ys)
  | [], _, _, _, h, g => by
    rw [show _ = _ from h]
    exact g
  | ws :: ls, ms, xs, ys, h, g => by
    obtain ⟨q, r, x, h1, h2, h3⟩ := h
    subst x
    exact ⟨q, r ++ ys, rfl, h1, h2, LsR.append h3 g⟩
theorem LsR.get {N : Addr → Prop} {H : Hp} : ∀ {ls : List (List Str)} {xs : List V} {i : Nat} {x : V}, LsR N H ls xs → xs[i]? = some x → ∃ ws q, ls[i]? = some ws ∧ x = .ref q ∧ H q = some (.lst (ws.map V.str))
  | [], _, i, x, h, e => by
    rw [show _ = _ from h] at e
    simp at e
  | ws :: ls, xs, i, x, h, e => by
    obtain ⟨q, r, y, h1, h2, h3⟩ := h
    subst y
    cases i with
    | zero =>
      have e' : V.ref q = x := Option.some.inj e
      exact ⟨ws, q, rfl, e'.symm, h2⟩
    | succ i => exact LsR.get (i := i) h3 e
/-- new to H, and not l -/
def NewTo (H : Hp) (l : Addr) (q : Addr) : Prop := H q = none ∧ q ≠ l
theorem NewTo.back {H H' : Hp} {l q : Addr} (e : Ex H H') (h : NewTo H' l q) : NewTo H l q := ⟨fresh_back e h.1, h.2⟩
def EvLL (te : TE) (σ : L2.St) (H : Hp) (ls : List (List Str)) : Prop := ∀ H1, Ex H H1 → ∀ Q : VK, (∀ p xs H2, H1 p = none → Ex H1 H2 → H2 p = some (.lst xs) → LsR (NewTo H1 p) H2 ls xs → Q (.ref p) H2) → te σ H1 Q
def RetLL (ls : List (List Str)) (H : Hp) (Q : VK) : Prop := ∀ p xs H2, H p = none → Ex H H2 → H2 p = some (.lst xs) → LsR (NewTo H p) H2 ls xs → Q (.ref p) H2
/-- the list at l keeps only what is new to H0 -/
def EvB (H0 : Hp) (l : Addr) (te : TE) (σ : L2.St) (H : Hp) (ls : List (List Str)) : Prop := ∀ H1, Ex H H1 → ∀ Q : VK, (∀ p xs H2, H1 p = none → Ex H1 H2 → H2 p = some (.lst xs) → LsR (NewTo H0 l) H2 ls xs → Q (.ref p) H2) → te σ H1 Q
theorem RetLL.go {H H' : Hp} {ls : List (List Str)} {Q : VK} (k : RetLL ls H Q) (e : Ex H H') {p : Addr} {xs : List V} {H2 : Hp} (hp : H' p = none) (e2 : Ex H' H2) (h : H2 p = some (.lst xs)) (hl : LsR (NewTo H' p) H2 ls xs) : Q (.ref p) H2 :=
  k p xs H2 (fresh_back e hp) (e.trans e2) h (hl.mono (fun _ => NewTo.back e) (Ex.refl H2))
section
variable {K : PySem.W.Frag} {σ : L2.St} {H H' H0 : Hp} {l : Addr} {ta tb tc te : TE} {x y z v w : V} {D : Ends} {tu tz : TS}
theorem ll_nil : EvLL (tLst tNil) σ H [] := fun H1 e Q q => ⟨Nat.zero_le _, fun p hp => q p [] _ hp (Ex.new hp) upd_same rfl⟩
theorem ll_one {ws : List Str} (h : EvL te σ H (ws.map V.str)) : EvLL (tLst (tCons te tNil)) σ H [ws] := fun H1 e Q q =>
  h H1 e _ fun r H2 hr e2 h2 => ⟨by show 1 ≤ sizeLine; exact sz_of (by decide), fun p hp => q p _ _ (fresh_back e2 hp) (e2.trans (Ex.new hp)) upd_same ⟨r, [], rfl, ⟨hr, fun z => by
    rw [z, hp] at h2
    cases h2⟩, Ex.new hp _ _ h2, rfl⟩⟩
/-- the inner ones of a new list stand before a later list -/
theorem LsR.ne {N : Addr → Prop} {H : Hp} {r : Addr} (hr : H r = none) : ∀ {ls : List (List Str)} {xs : List V}, LsR N H ls xs → LsR (fun q => N q ∧ q ≠ r) H ls xs
  | [], _, h => h
  | ws :: ls, xs, h => by
    obtain ⟨q, r', x, h1, h2, h3⟩ := h
    exact ⟨q, r', x, ⟨h1, fun z => by
      rw [z, hr] at h2
      cases h2⟩, h2, LsR.ne hr h3⟩
theorem ll_cat {ls ms : List (List Str)} (ha : EvLL ta σ H ls) (hb : EvLL tb σ H ms) (hl : ls.length + ms.length ≤ 100000) : EvLL (tOp rCat ta tb) σ H (ls ++ ms) := fun H1 e Q k =>
  ha H1 e _ fun p xs H2 hp e2 h2 l2 => hb H2 (e.trans e2) _ fun q ys H3 hq e3 h3 l3 => ⟨p, q, xs, ys, rfl, rfl, e3 _ _ h2, h3, by rw [l2.len, l3.len]; exact sz_of hl, fun r hr =>
    k r _ _ (fresh_back (e2.trans e3) hr) ((e2.trans e3).trans (Ex.new hr)) upd_same
      (((l2.mono (fun q h => h.1) e3).ne hr).mono (fun _ h => h) (Ex.new hr) |>.append (((l3.mono (fun q h => fresh_back e2 h.1) (Ex.refl _)).ne hr).mono (fun _ h => h) (Ex.new hr)))⟩
theorem ll_if {t : TT} {b : Bool} {ls : List (List Str)} (h : EvT t σ H b) (h1 : b = true → EvLL ta σ H ls) (h2 : b = false → EvLL tb σ H ls) : EvLL (tIf t ta tb) σ H ls := fun H1 e Q q => h H1 e _ fun H2 e2 => by
  cases b with
  | true =>
    show ta σ H2 Q
    exact h1 rfl H2 (e.trans e2) Q fun p xs H3 hp e3 h3 l3 => q p xs H3 (fresh_back e2 hp) (e2.trans e3) h3 (l3.mono (fun _ => NewTo.back e2) (Ex.refl _))
  | false =>
    show tb σ H2 Q
    exact h2 rfl H2 (e.trans e2) Q fun p xs H3 hp e3 h3 l3 => q p xs H3 (fresh_back e2 hp) (e2.trans e3) h3 (l3.mono (fun _ => NewTo.back e2) (Ex.refl _))
theorem ll_call {sp : Sp} {dvs vs : List V} {ls : List (List Str)} {E : XK} {tA : TA} (h : EvA tA σ H vs) (hs : ∀ H1, Ex H H1 → ∀ Q : VK, RetLL ls H1 Q → ∀ E : XK, sp (vs ++ dvs) H1 Q E) : EvLL (tCall sp dvs E tA) σ H ls := fun H1 e Q q =>
  h H1 e _ fun H2 e2 => hs H2 (e.trans e2) Q (fun p xs H3 hp e3 h3 l3 => q p xs H3 (fresh_back e2 hp) (e2.trans e3) h3 (l3.mono (fun _ => NewTo.back e2) (Ex.refl _))) E
theorem ll_mono {ls : List (List Str)} (e : Ex H H') (h : EvLL te σ H ls) : EvLL te σ H' ls := fun H1 a Q q => h H1 (e.trans a) Q q
theorem ll_is {ls ms : List (List Str)} (h : EvLL te σ H ls) (e : ls = ms) : EvLL te σ H ms := e ▸ h
theorem lb_of {ls : List (List Str)} {o : HO} (e0 : Ex H0 H) (hl : H l = some o) (h : EvLL te σ H ls) : EvB H0 l te σ H ls := fun H1 e Q q => h H1 e Q fun p xs H2 hp e2 h2 l2 =>
  q p xs H2 hp e2 h2 (l2.mono (fun q hq => ⟨fresh_back (e0.trans e) hq.1, fun z => by
    have := hq.1
    rw [z, e _ _ hl] at this
    cases this⟩) (Ex.refl _))
theorem lb_cat {ls ms : List (List Str)} (ha : EvB H0 l ta σ H ls) (hb : EvB H0 l tb σ H ms) (hl : ls.length + ms.length ≤ 100000) : EvB H0 l (tOp rCat ta tb) σ H (ls ++ ms) := fun H1 e Q k =>
  ha H1 e _ fun p xs H2 hp e2 h2 l2 => hb H2 (e.trans e2) _ fun q ys H3 hq e3 h3 l3 => ⟨p, q, xs, ys, rfl, rfl, e3 _ _ h2, h3, by rw [l2.len, l3.len]; exact sz_of hl, fun r hr =>
    k r _ _ (fresh_back (e2.trans e3) hr) ((e2.trans e3).trans (Ex.new hr)) upd_same ((l2.mono (fun _ h => h) (e3.trans (Ex.new hr))).append (l3.mono (fun _ h => h) (Ex.new hr)))⟩
/-- .. + a list that stands -/
theorem lb_catW {p : Addr} {ys : List V} {ls ms : List (List Str)} (ha : EvB H0 l ta σ H ls) (hb : Ev tb σ H (.ref p)) (hp : H p = some (.lst ys)) (hy : LsR (NewTo H0 l) H ms ys) (hl : ls.length + ms.length ≤ 100000) : EvB H0 l (tOp rCat ta tb) σ H (ls ++ ms) := fun H1 e Q k =>
  ha H1 e _ fun q xs H2 hq e2 h2 l2 => hb H2 (e.trans e2) _ fun H3 e3 => ⟨q, p, xs, ys, rfl, rfl, e3 _ _ h2, e3 _ _ (e2 _ _ (e _ _ hp)), by rw [l2.len, hy.len]; exact sz_of hl, fun r hr =>
    k r _ _ (fresh_back (e2.trans e3) hr) ((e2.trans e3).trans (Ex.new hr)) upd_same ((l2.mono (fun _ h => h) (e3.trans (Ex.new hr))).append (hy.mono (fun _ h => h) (((e.trans e2).trans e3).trans (Ex.new hr))))⟩
/-- a list that stands + .. -/
theorem lb_catV {p : Addr} {ys : List V} {ls ms : List (List Str)} (hb : Ev ta σ H (.ref p)) (hp : H p = some (.lst ys)) (hy : LsR (NewTo H0 l) H ls ys) (ha : EvB H0 l tb σ H ms) (hl : ls.length + ms.length ≤ 100000) : EvB H0 l (tOp rCat ta tb) σ H (ls ++ ms) := fun H1 e Q k =>
  hb H1 e _ fun H2 e2 => ha H2 (e.trans e2) _ fun q xs H3 hq e3 h3 l3 => ⟨p, q, ys, xs, rfl, rfl, e3 _ _ (e2 _ _ (e _ _ hp)), h3, by rw [l3.len, hy.len]; exact sz_of hl, fun r hr =>
    k r _ _ (fresh_back (e2.trans e3) hr) ((e2.trans e3).trans (Ex.new hr)) upd_same ((hy.mono (fun _ h => h) (((e.trans e2).trans e3).trans (Ex.new hr))).append (l3.mono (fun _ h => h) (Ex.new hr)))⟩
/-- the list that grows -/
structure Lo (H0 H : Hp) (l : Addr) (ls : List (List Str)) : Prop where
  new : H0 l = none
  e : Ex H0 H
  at_ : ∃ xs, H l = some (.lst xs) ∧ LsR (NewTo H0 l) H ls xs
theorem Lo.set {H1 : Hp} {ls ms : List (List Str)} {xs : List V} (g : Lo H0 H l ls) (e : Ex H H1) (h : LsR (NewTo H0 l) H1 ms xs) : Lo H0 (upd H1 l (.lst xs)) l ms :=
  ⟨g.new, (g.e.trans e).mut g.new, xs, upd_same, LsR.upd (fun q hq => hq.2) h⟩
theorem Lo.mono {H1 : Hp} {ls : List (List Str)} (g : Lo H0 H l ls) (e : Ex H H1) : Lo H0 H1 l ls := by
  obtain ⟨xs, h1, h2⟩ := g.at_
  exact ⟨g.new, g.e.trans e, xs, e _ _ h1, h2.mono (fun _ h => h) e⟩
theorem Lo.some {ls : List (List Str)} (g : Lo H0 H l ls) : ∃ o, H l = some o := by
  obtain ⟨xs, h1, h2⟩ := g.at_
  exact ⟨_, h1⟩
theorem Lo.evb {ls ms : List (List Str)} (g : Lo H0 H l ls) (h : EvLL te σ H ms) : EvB H0 l te σ H ms := by
  obtain ⟨o, ho⟩ := g.some
  exact lb_of g.e ho h
/-- found += .. -/
theorem s_augLL {i : Nat} {ls ms : List (List Str)} (hv : σ[i]? = some (some (.ref l))) (g : Lo H0 H l ls) (h : EvB H0 l te σ H ms) (hl : ls.length + ms.length ≤ 100000)
    (k : ∀ H1, Lo H0 H1 l (ls ++ ms) → D.nx (σ.set i (some (.ref l))) H1) : tAug i te rExt2 D σ H := by
  obtain ⟨xs, hx, hr⟩ := g.at_
  exact ⟨.ref l, hv, h H (Ex.refl H) _ fun p ys H2 hp e2 h2 l2 => ⟨l, p, xs, ys, rfl, rfl, e2 _ _ hx, h2, by rw [hr.len, l2.len]; exact sz_of hl, k _ (g.set e2 ((hr.mono (fun _ h => h) e2).append l2))⟩⟩
theorem s_appLL {ls : List (List Str)} {ws : List Str} (g : Lo H0 H l ls) (ha : Ev ta σ H (.ref l)) (h : EvL te σ H (ws.map V.str)) (hl : ls.length < 100000)
    (k : ∀ H1, Lo H0 H1 l (ls ++ [ws]) → D.nx σ H1) : tDrop (tBM K "list" rAppend ta (tCons te tNil)) D σ H := by
  obtain ⟨xs, hx, hr⟩ := g.at_
  refine s_appL hx ha h (by rw [hr.len]; exact hl) fun p H1 hp e h1 => k _ (g.set e ((hr.mono (fun _ h => h) e).append ⟨p, [], rfl, ⟨fresh_back g.e hp, fun z => ?_⟩, h1, rfl⟩))
  rw [z, hx] at hp
  cases hp
theorem q_asgLL {i : Nat} {ls : List (List Str)} (h : EvLL te σ H ls) (k : ∀ p xs H1, H p = none → Ex H H1 → H1 p = some (.lst xs) → LsR (NewTo H p) H1 ls xs → tz D (σ.set i (some (.ref p))) H1) : tSeq (tAsg te (gName i)) tz D σ H := h H (Ex.refl H) _ k
theorem q_asgB {i : Nat} {ls : List (List Str)} (h : EvB H0 l te σ H ls) (k : ∀ p xs H1, H p = none → Ex H H1 → H1 p = some (.lst xs) → LsR (NewTo H0 l) H1 ls xs → tz D (σ.set i (some (.ref p))) H1) : tSeq (tAsg te (gName i)) tz D σ H := h H (Ex.refl H) _ k
end
/-! ### how long -/
theorem sumW_len : ∀ (s : Sm), 1 ≤ terms s ∧ (sumW s false).length + 3 ≤ 4 * terms s ∧ (sumW s true).length + 1 ≤ 4 * terms s
  | .num i => ⟨Nat.le_refl _, Nat.le_refl _, by show 1 + 1 ≤ 4; decide⟩
  | .nam x => ⟨Nat.le_refl _, Nat.le_refl _, by show 1 + 1 ≤ 4; decide⟩
  | .bin p a b => by
    obtain ⟨a1, a2, a3⟩ := sumW_len a
    obtain ⟨b1, b2, b3⟩ := sumW_len b
    have t : terms (.bin p a b) = terms a + terms b := rfl
    have l1 : (sumW (.bin p a b) false).length = (sumW a false).length + 1 + (sumW b true).length := by
      show (sumW a false ++ [sg p] ++ sumW b true).length = _
      simp only [List.length_append, List.length_cons, List.length_nil]
    have l2 : (sumW (.bin p a b) true).length = (sumW a false).length + 1 + (sumW b true).length + 2 := by
      show ((["("] : List Str) ++ (sumW a false ++ [sg p] ++ sumW b true) ++ ([")"] : List Str)).length = _
      simp only [List.length_append, List.length_cons, List.length_nil]
      omega
    omega
mutual
theorem linesP_len : ∀ p : Pt, (linesP p).length ≤ 3 * szP p
  | .letP x s => by rw [linesP, szP]; show 1 ≤ 3 * 1; decide; all_goals (intros; contradiction)
  | .say s => by rw [linesP, szP]; show 1 ≤ 3 * 1; decide; all_goals (intros; contradiction)
  | .ask x => by rw [linesP, szP]; show 1 ≤ 3 * 1; decide; all_goals (intros; contradiction)
  | .doP x => by rw [linesP, szP]; show 1 ≤ 3 * 1; decide; all_goals (intros; contradiction)
  | .stop => by rw [linesP, szP]; show 1 ≤ 3 * 1; decide; all_goals (intros; contradiction)
  | .whl s z b => by
    have := linesB_len b
    rw [linesP, szP]
    simp only [List.length_append, List.length_cons, List.length_nil]
    omega
  | .rep n b => by
    have := linesB_len b
    rw [linesP, szP]
    simp only [List.length_append, List.length_cons, List.length_nil]
    omega
  | .ifP s z b [] => by
    have := linesB_len b
    rw [linesP, szP, szB]
    simp only [List.length_append, List.length_cons, List.length_nil]
    omega
  | .ifP s z b (c :: cs) => by
    have := linesB_len b
    have h1 := linesP_len c
    have h2 := linesB_len cs
    rw [linesP, szP, szB]
    simp only [List.length_append, List.length_cons, List.length_nil]
    omega
theorem linesB_len : ∀ b : List Pt, (linesB b).length ≤ 3 * szB b
  | [] => by rw [linesB, szB]; decide
  | p :: r => by
    have h1 := linesP_len p
    have h2 := linesB_len r
    rw [linesB, szB, List.length_append]
    omega
end
theorem linesB_take {b : List Pt} {i : Nat} {p : Pt} (h : b[i]? = some p) : linesB (b.take (i + 1)) = linesB (b.take i) ++ linesP p := by
  induction b generalizing i with
  | nil => simp at h
  | cons q r ih =>
    cases i with
    | zero =>
      cases (Option.some.inj h : q = p)
      simp [linesB]
    | succ i =>
      simp only [List.take_succ_cons, linesB, ih h, List.append_assoc]
/-! ### the promises -/
def spSumWords (n : Nat) : Sp := fun vs H Q _ => ∃ (v : V) (names : List Str) (s : Sm) (inn : Bool), vs = [v, .bl inn] ∧ Td H (eS s) v ∧ okSm names s ∧ deep s < n ∧ terms s ≤ 24 ∧ RetL ((sumW s inn).map V.str) H Q
def spTestWords : Sp := fun vs H Q _ => ∃ (v : V) (names : List Str) (s : Sm) (z : Bool), vs = [v] ∧ Td H (eT s z) v ∧ okS names s ∧ RetL ((tsW s z).map V.str) H Q
def spLinesOf (n : Nat) : Sp := fun vs H Q _ => ∃ (v : V) (b : List Pt) (names done : List Str) (d : Nat), vs = [v] ∧ Td H (eB b) v ∧ okB names done d b ∧ (∀ x ∈ names, isName x = true) ∧ (∀ x ∈ done, isName x = true) ∧ htB b < n ∧ szB b ≤ 1000 ∧ RetLL (linesB b) H Q
section
variable {P : Program} {w : World} {K : PySem.W.Frag} {mg : Str → Option Value} {base : Heap} {a : Ads}
theorem b_sum_words (T : Txt K mg w a) : ∀ n, CalG CX0 P w K mg base (n + 1) "sum_words" (spSumWords n) [] ∧ CalG CX0 P w K mg base (n + 1) "sum_words" (spSumWords n) [.bl false]
  | 0 => by
    obtain ⟨f, fd, D, hm⟩ := T.d_sum_words
    have F : FnOk P w K mg base CX0 1 f fd ["value", "is_inner"] (spSumWords 0) := FnOk.never fun vs H Q E h => by
      obtain ⟨_, _, _, _, _, _, _, h, _⟩ := h
      omega
    obtain ⟨ds0, v0, b0⟩ := D.binds1 (ps := ["value", "is_inner"]) 2 1 (by simp) rfl fun _ _ _ _ _ _ _ us its hu hi => match us, its, hu, hi with | [_, _], [_], _, _ => ⟨_, rfl, rfl⟩
    obtain ⟨ds1, v1, b1⟩ := D.binds1 (ps := ["value", "is_inner"]) 1 0 (by simp) rfl fun _ _ _ _ _ _ _ us its hu hi => match us, its, hu, hi with | [_], [_], _, _ => ⟨_, rfl, rfl⟩
    exact ⟨⟨f, fd, _, ds0, F, hm, D.kp, b0, v0⟩, ⟨f, fd, _, ds1, F, hm, D.kp, b1, v1⟩⟩
  | n + 1 => by
    have C_sum_words := (b_sum_words T n).1
    have C_sum_words_d := (b_sum_words T n).2
    obtain ⟨f, fd, D, hm⟩ := T.d_sum_words
    have F : FnOk P w K mg base CX0 (n + 1 + 1) f fd ["value", "is_inner"] (spSumWords (n + 1)) := by
      refine D.ok sc_sum_words (fun vs H Q E h => ?_) (fun cdv A outer s H vs Q E hr h => ⟨_, PSs.nox ((pss_cons (ps_if (pt_val (pe_callB call_isi (by rfl) T.b_isinstance (by decide +kernel) (pa_cons (pv 0) (pa_cons (pe_bltn (by rfl) T.b_str (by decide +kernel) (show RelV (.ty "str") (.type "str") from rfl)) pa_nil)))) (pss_one (ps_ret (pe_lst (pa_cons (pv 0) pa_nil)))) pss_nil)
      (pss_cons (ps_if (pt_not (pt_val (pe_callB call_isi (by rfl) T.b_isinstance (by decide +kernel) (pa_cons (pv 0) (pa_cons (pe_bltn (by rfl) T.b_tuple (by decide +kernel) (show RelV (.ty "tuple") (.type "tuple") from rfl)) pa_nil))))) (pss_one (ps_ret (pe_lst (pa_cons (pe_callTy call_str_int (by rfl) T.b_str (by decide +kernel) (pa_cons (pv 0) pa_nil)) pa_nil)))) pss_nil)
      (pss_cons (ps_set (i := 2) sc_sum_words.nd rfl (Or.inl rfl) (pe_op op_cat (pe_op op_cat (pe_f0 C_sum_words_d hr (by omega) (by rfl) (pa_cons (pe_ix ix_tup (pv 0) pe_int (fun _ _ => rfl)) pa_nil)) (pe_lst (pa_cons (pe_ifExp (pt_cmpR op_eq (pe_ix ix_tup (pv 0) pe_int (fun _ _ => rfl)) pe_str (nomark _)) pe_str pe_str) pa_nil))) (pe_f0 C_sum_words hr (by omega) (by rfl) (pa_cons (pe_ix ix_tup (pv 0) pe_int (fun _ _ => rfl)) (pa_cons pe_bl pa_nil)))))
      (pss_one (ps_ret (pe_ifExp (pt_val (pv 1)) (pe_op op_cat (pe_op op_cat (pe_lst (pa_cons pe_str pa_nil)) (pv 2)) (pe_lst (pa_cons pe_str pa_nil))) (pv 2)))))))), ?_⟩)
      · obtain ⟨v, names, s, inn, rfl, _⟩ := h
        rfl
      · obtain ⟨v, names, s, inn, rfl, hv, hs, hd, ht, k⟩ := h
        cases s with
        | num i =>
          cases (show v = .int i from hv)
          have h1 := hs.1
          have h2 := hs.2
          refine q_no (et_B (ev_isi (ev_var rfl) ev_c (fun _ _ => ty_int) k_int_str)) fun H1 e1 => ?_
          refine q_yes (et_not (a := false) (et_B (ev_isi (ev_var rfl) ev_c (fun _ _ => ty_int) k_int_tuple))) fun H2 e2 => ?_
          exact s_retL (el_lst (ea_cons (ev_strI (i := i) (ev_var rfl) (by omega)) ea_nil) (by simp)) fun p H3 hp e3 h3 => k.go (e1.trans e2) hp e3 (by cases inn <;> exact h3)
        | nam x =>
          cases (show v = .str x from hv)
          refine q_yes (et_B (ev_isi (ev_var rfl) ev_c (fun _ _ => ty_str) k_str_str)) fun H1 e1 => ?_
          exact s_retL (el_lst (ea_cons (ev_var rfl) ea_nil) (by simp)) fun p H3 hp e3 h3 => k.go e1 hp e3 (by cases inn <;> exact h3)
        | bin p x y =>
          obtain ⟨ad, xs, rfl, had, v1, r1, rfl, e1, v2, r2, rfl, h2, v3, r3, rfl, h3, e3⟩ := hv
          cases (show v1 = .str (sgn p) from e1)
          cases (show r3 = [] from e3)
          have hT : ∀ H1, Ex H H1 → SqT K H1 ad [.str (sgn p), v2, v3] := fun H1 e => sumT e had
          have hd5 : 1 + max (deep x) (deep y) < n + 1 := hd
          have ht5 : terms x + terms y ≤ 24 := ht
          obtain ⟨x1, x2, x3⟩ := sumW_len x
          obtain ⟨y1, y2, y3⟩ := sumW_len y
          refine q_no (et_B (ev_isi (ev_var rfl) ev_c (fun _ e => ty_tup (e _ _ had)) k_tuple_str)) fun H1 e1 => ?_
          refine q_no (et_not (a := true) (et_B (ev_isi (ev_var rfl) ev_c (fun _ e => ty_tup (e _ _ (e1 _ _ had))) k_tuple_tuple))) fun H2 e2 => ?_
          have e12 := e1.trans e2
          refine q_asgL (xs := (sumW x false).map V.str ++ [.str (sg p)] ++ (sumW y true).map V.str) (el_cat (el_cat (el_call (ea_cons (ev_op (ev_var rfl) ev_c (rv_ixT (hT _ e12) (atI_nat (j := 1) rfl))) ea_nil)
              fun H3 e3 Q' q E' => ⟨v2, names, x, false, rfl, h2.ex (e12.trans e3), hs.1, by omega, by omega, q⟩)
            (el_lst (ea_cons (ev_if (b := p) (et_w (ev_op (ev_var rfl) ev_c (rv_ixT (hT _ e12) (atI_nat (j := 0) rfl))) (by cases p <;> decide +kernel)) (fun h => by subst h; exact ev_c) (fun h => by subst h; exact ev_c)) ea_nil) (by simp))
              (by simp only [List.length_map, List.length_cons, List.length_nil]; omega))
            (el_call (ea_cons (ev_op (ev_var rfl) ev_c (rv_ixT (hT _ e12) (atI_nat (j := 2) rfl))) (ea_cons ev_c ea_nil))
              fun H3 e3 Q' q E' => ⟨v3, names, y, true, rfl, h3.ex (e12.trans e3), hs.2, by omega, by omega, q⟩)
            (by simp only [List.length_append, List.length_map, List.length_cons, List.length_nil]; omega)) fun l H3 hl0 e3 hl => ?_
          cases inn with
          | false =>
            refine s_ret (v := .ref l) (ev_if (b := false) (et_test (ev_var rfl)) (fun h => nomatch h) fun _ => ev_var rfl) fun H4 e4 => k.go e12 hl0 (e3.trans e4) ?_
            rw [e4 _ _ hl]
            show some (HO.lst _) = some (HO.lst ((sumW x false ++ [sg p] ++ sumW y true).map V.str))
            simp
          | true =>
            refine s_retL (xs := [.str "("] ++ ((sumW x false).map V.str ++ [.str (sg p)] ++ (sumW y true).map V.str) ++ [.str ")"]) ?_ fun q H4 hq e4 h4 => k.go (e12.trans e3) hq e4 ?_
            · refine el_if (b := true) (et_test (ev_var rfl)) (fun _ => ?_) fun h => nomatch h
              exact el_cat (el_catW (el_lst (ea_cons ev_c ea_nil) (by simp)) (ev_var rfl) hl (by simp only [List.length_append, List.length_map, List.length_cons, List.length_nil]; omega)) (el_lst (ea_cons ev_c ea_nil) (by simp))
                (by simp only [List.length_append, List.length_map, List.length_cons, List.length_nil]; omega)
            · rw [h4]
              show some (HO.lst _) = some (HO.lst (((["("] : List Str) ++ (sumW x false ++ [sg p] ++ sumW y true) ++ ([")"] : List Str)).map V.str))
              simp
    obtain ⟨ds0, v0, b0⟩ := D.binds1 (ps := ["value", "is_inner"]) 2 1 (by simp) rfl fun _ _ _ _ _ _ _ us its hu hi => match us, its, hu, hi with | [_, _], [_], _, _ => ⟨_, rfl, rfl⟩
    obtain ⟨ds1, v1, b1⟩ := D.binds1 (ps := ["value", "is_inner"]) 1 0 (by simp) rfl fun _ _ _ _ _ _ _ us its hu hi => match us, its, hu, hi with | [_], [_], _, _ => ⟨_, rfl, rfl⟩
    exact ⟨⟨f, fd, _, ds0, F, hm, D.kp, b0, v0⟩, ⟨f, fd, _, ds1, F, hm, D.kp, b1, v1⟩⟩
theorem c_sum_words_d (T : Txt K mg w a) : CalG CX0 P w K mg base 8 "sum_words" (spSumWords 7) [.bl false] := (b_sum_words T 7).2
theorem c_test_words (T : Txt K mg w a) : CalG CX0 P w K mg base 9 "test_words" spTestWords [] := by
  have C_sum_words_d : CalG CX0 P w K mg base 8 "sum_words" (spSumWords 7) [.bl false] := c_sum_words_d T
  obtain ⟨f, fd, D, hm⟩ := T.d_test_words
  refine ⟨f, fd, _, _, D.ok sc_test_words (fun vs H Q E h => ?_) (fun cdv A outer s H vs Q E hr h => ⟨_, PSs.nox ((pss_one (ps_ret (pe_op op_cat (pe_f0 C_sum_words_d hr (by omega) (by rfl) (pa_cons (pe_ix ix_tup (pv 0) pe_int (fun _ _ => rfl)) pa_nil)) (pe_lst (pa_cons (pe_ifExp (pt_val (pe_ix ix_tup (pv 0) pe_int (fun _ _ => rfl))) pe_str pe_str) (pa_cons pe_str pa_nil))))))), ?_⟩), hm, D.kp, D.bindsN (fun _ _ _ _ _ _ us hl => match us, hl with | [_], _ => rfl), .nil⟩
  · obtain ⟨v, names, s, z, rfl, _⟩ := h
    rfl
  · obtain ⟨v, names, s, z, rfl, hv, hs, k⟩ := h
    obtain ⟨ad, xs, rfl, had, v1, r1, rfl, h1, v2, r2, rfl, e2, e3⟩ := hv
    cases (show v2 = .bl z from e2)
    cases (show r2 = [] from e3)
    have hT : ∀ H1, Ex H H1 → SqT K H1 ad [v1, .bl z] := fun H1 e => sumT e had
    obtain ⟨x1, x2, x3⟩ := sumW_len s
    have h24 := hs.2.2
    have h6 := hs.2.1
    refine s_retL (xs := (sumW s false).map V.str ++ [.str (eqS z), .str "0"]) (el_cat (el_call (ea_cons (ev_op (ev_var rfl) ev_c (rv_ixT (hT _ (Ex.refl H)) (atI_nat (j := 0) rfl))) ea_nil)
        fun H3 e3 Q' q E' => ⟨v1, names, s, false, rfl, h1.ex e3, hs.1, by omega, by omega, q⟩)
      (el_lst (ea_cons (ev_if (b := z) (et_test (ev_op (ev_var rfl) ev_c (rv_ixT (hT _ (Ex.refl H)) (atI_nat (j := 1) rfl)))) (fun h => by subst h; exact ev_c) (fun h => by subst h; exact ev_c)) (ea_cons ev_c ea_nil)) (by simp))
      (by simp only [List.length_map, List.length_cons, List.length_nil]; omega)) fun p H2 hp e2 h2 => k p H2 hp e2 ?_
    rw [h2]
    show some (HO.lst _) = some (HO.lst ((sumW s false ++ ([eqS z, "0"] : List Str)).map V.str))
    simp
end
end RS
end
section
set_option Elab.async false
set_option linter.all false
set_option maxRecDepth 100000
set_option maxHeartbeats 4000000
/-! W6: lines_of, write_blocks. -/
namespace RS
open PySem L2 TL Evl
section
variable {P : Program} {w : World} {K : PySem.W.Frag} {mg : Str → Option Value} {base : Heap} {a : Ads}
theorem ev_w0 {te : TE} {σ : L2.St} {H : Hp} {ad : Addr} {x : V} {xs : List V} (h : Ev te σ H (.ref ad)) (hT : SqT K H ad (x :: xs)) : Ev (tOp (rIxT K) te (tC (.int 0))) σ H x := ev_op h ev_c (rv_ixT hT (atI_nat (j := 0) rfl))
theorem ev_w1 {te : TE} {σ : L2.St} {H : Hp} {ad : Addr} {x y : V} {xs : List V} (h : Ev te σ H (.ref ad)) (hT : SqT K H ad (x :: y :: xs)) : Ev (tOp (rIxT K) te (tC (.int 1))) σ H y := ev_op h ev_c (rv_ixT hT (atI_nat (j := 1) rfl))
theorem ev_w2 {te : TE} {σ : L2.St} {H : Hp} {ad : Addr} {x y z : V} {xs : List V} (h : Ev te σ H (.ref ad)) (hT : SqT K H ad (x :: y :: z :: xs)) : Ev (tOp (rIxT K) te (tC (.int 2))) σ H z := ev_op h ev_c (rv_ixT hT (atI_nat (j := 2) rfl))
theorem ev_w3 {te : TE} {σ : L2.St} {H : Hp} {ad : Addr} {x y z u : V} {xs : List V} (h : Ev te σ H (.ref ad)) (hT : SqT K H ad (x :: y :: z :: u :: xs)) : Ev (tOp (rIxT K) te (tC (.int 3))) σ H u := ev_op h ev_c (rv_ixT hT (atI_nat (j := 3) rfl))
theorem szTake : ∀ (b : List Pt) (i : Nat), szB (b.take i) ≤ szB b
  | [], i => by simp
  | q :: r, 0 => by simp [szB]
  | q :: r, i + 1 => by
    have := szTake r i
    rw [List.take_succ_cons, szB, szB]
    omega
theorem tsW_len {names : List Str} {s : Sm} {z : Bool} (h : okS names s) : (tsW s z).length ≤ 100 := by
  obtain ⟨x1, x2, x3⟩ := sumW_len s
  have := h.2.2
  show (sumW s false ++ ([eqS z, "0"] : List Str)).length ≤ 100
  simp only [List.length_append, List.length_cons, List.length_nil]
  omega
end
/-! ### short lines -/
def sw (w : Str) : Prop := w.length ≤ 8 ∧ asc w
def sl (ws : List Str) : Prop := ws.length ≤ 103 ∧ ∀ w ∈ ws, sw w
theorem sw_lit {w : Str} (h : (decide (w.length ≤ 8) && (tl w).all fun c => decide (c < 128)) = true) : sw w := by
  rw [Bool.and_eq_true] at h
  exact ⟨of_decide_eq_true h.1, asc_lit h.2⟩
theorem sw_name {x : Str} (h : isName x = true) : sw x := ⟨(isName_spec h).2.1, asc_name h⟩
theorem sw_num {i : Int} (h : -10000 < i ∧ i < 10000) : sw (numS i) := by
  have key : ∀ n, n < 10000 → (numL n).length ≤ 4 ∧ ∀ c ∈ numL n, c < 128 := fun n hn => ⟨numL_len (by decide) hn, fun c hc => by have := numL_digits n c hc; omega⟩
  unfold sw asc
  rw [len_tl, tl_numS]
  unfold numL'
  split
  · obtain ⟨h1, h2⟩ := key i.natAbs (by omega)
    refine ⟨by rw [List.length_cons]; omega, fun c hc => ?_⟩
    rcases List.mem_cons.mp hc with e | e
    · omega
    · exact h2 c e
  · obtain ⟨h1, h2⟩ := key i.toNat (by omega)
    exact ⟨by omega, h2⟩
theorem sw_sum {names : List Str} (hn : ∀ x ∈ names, isName x = true) : ∀ (s : Sm) (inn : Bool), okSm names s → ∀ w ∈ sumW s inn, sw w
  | .num i, inn, h => by
    have e : sumW (.num i) inn = [numS i] := by cases inn <;> rfl
    rw [e]
    intro w hw
    rw [List.mem_singleton.mp hw]
    exact sw_num (by have := h.1; have := h.2; omega)
  | .nam x, inn, h => by
    have e : sumW (.nam x) inn = [x] := by cases inn <;> rfl
    rw [e]
    intro w hw
    rw [List.mem_singleton.mp hw]
    exact sw_name h.2
  | .bin p a b, inn, h => by
    have f : ∀ w ∈ sumW a false ++ [sg p] ++ sumW b true, sw w := by
      intro w hw
      rw [List.mem_append, List.mem_append] at hw
      rcases hw with (hw | hw) | hw
      · exact sw_sum hn a false h.1 w hw
      · rw [List.mem_singleton.mp hw]
        cases p <;> exact sw_lit (by decide +kernel)
      · exact sw_sum hn b true h.2 w hw
    cases inn with
    | false => exact f
    | true =>
      intro w hw
      have hw' : w ∈ (["("] : List Str) ++ (sumW a false ++ [sg p] ++ sumW b true) ++ ([")"] : List Str) := hw
      rw [List.mem_append, List.mem_append] at hw'
      rcases hw' with (hw | hw) | hw
      · rw [List.mem_singleton.mp hw]
        exact sw_lit (by decide +kernel)
      · exact f w hw
      · rw [List.mem_singleton.mp hw]
        exact sw_lit (by decide +kernel)
theorem sl_cons {w : Str} {ws : List Str} (h : sw w) (hl : ws.length ≤ 102) (hs : ∀ v ∈ ws, sw v) : sl (w :: ws) := ⟨by rw [List.length_cons]; omega, fun v hv => by
  rcases List.mem_cons.mp hv with e | e
  · rw [e]
    exact h
  · exact hs v e⟩
theorem sw_ts {names : List Str} (hn : ∀ x ∈ names, isName x = true) {s : Sm} {z : Bool} (h : okSm names s) : ∀ w ∈ tsW s z, sw w := by
  intro w hw
  have hw' : w ∈ sumW s false ++ ([eqS z, "0"] : List Str) := hw
  rcases List.mem_append.mp hw' with e | e
  · exact sw_sum hn s false h w e
  · rcases List.mem_cons.mp e with e | e
    · rw [e]
      cases z <;> exact sw_lit (by decide +kernel)
    · rw [List.mem_singleton.mp e]
      exact sw_lit (by decide +kernel)
theorem sumL {names : List Str} {s : Sm} (h : okS names s) : (sumW s false).length ≤ 93 := by
  obtain ⟨x1, x2, x3⟩ := sumW_len s
  have := h.2.2
  omega
theorem sl_end : sl (["end"] : List Str) := sl_cons (sw_lit (by decide +kernel)) (by decide) (by simp)
theorem sl_else : sl (["else"] : List Str) := sl_cons (sw_lit (by decide +kernel)) (by decide) (by simp)
mutual
theorem sl_part {names done : List Str} (hn : ∀ x ∈ names, isName x = true) (hd : ∀ x ∈ done, isName x = true) : ∀ (p : Pt) (d : Nat), okP names done d p → ∀ ws ∈ linesP p, sl ws
  | .letP x s, d, h => by
    rw [linesP]
    rw [okP] at h
    intro ws hw
    rw [List.mem_singleton.mp hw]
    refine sl_cons (sw_lit (by decide +kernel)) (by have := sumL h.2; show (x :: ("=" : Str) :: sumW s false).length ≤ 102; simp only [List.length_cons]; omega) fun v hv => ?_
    have hv' : v ∈ x :: ("=" : Str) :: sumW s false := hv
    rcases List.mem_cons.mp hv' with e | e
    · rw [e]
      exact sw_name (hn x h.1)
    · rcases List.mem_cons.mp e with e | e
      · rw [e]
        exact sw_lit (by decide +kernel)
      · exact sw_sum hn s false h.2.1 v e
  | .say s, d, h => by
    rw [linesP]
    rw [okP] at h
    intro ws hw
    rw [List.mem_singleton.mp hw]
    exact sl_cons (sw_lit (by decide +kernel)) (by have := sumL h; show (sumW s false).length ≤ 102; omega) (sw_sum hn s false h.1)
  | .ask x, d, h => by
    rw [linesP]
    rw [okP] at h
    intro ws hw
    rw [List.mem_singleton.mp hw]
    refine sl_cons (sw_lit (by decide +kernel)) (by show ([x] : List Str).length ≤ 102; simp) fun v hv => ?_
    rw [List.mem_singleton.mp hv]
    exact sw_name (hn x h)
  | .doP x, d, h => by
    rw [linesP]
    rw [okP] at h
    intro ws hw
    rw [List.mem_singleton.mp hw]
    refine sl_cons (sw_lit (by decide +kernel)) (by show ([x] : List Str).length ≤ 102; simp) fun v hv => ?_
    rw [List.mem_singleton.mp hv]
    exact sw_name (hd x h)
  | .stop, d, h => by
    rw [linesP]
    intro ws hw
    rw [List.mem_singleton.mp hw]
    exact sl_cons (sw_lit (by decide +kernel)) (by decide) (by simp)
  | .whl s z b, d, h => by
    rw [linesP]
    rw [okP] at h
    intro ws hw
    rw [List.mem_append, List.mem_append] at hw
    rcases hw with (hw | hw) | hw
    · rw [List.mem_singleton.mp hw]
      exact sl_cons (sw_lit (by decide +kernel)) (by have := tsW_len (z := z) h.1; show (tsW s z).length ≤ 102; omega) (sw_ts hn h.1.1)
    · exact sl_block hn hd b _ h.2.2 ws hw
    · rw [List.mem_singleton.mp hw]
      exact sl_end
  | .rep n b, d, h => by
    rw [linesP]
    rw [okP] at h
    intro ws hw
    rw [List.mem_append, List.mem_append] at hw
    rcases hw with (hw | hw) | hw
    · rw [List.mem_singleton.mp hw]
      refine sl_cons (sw_lit (by decide +kernel)) (by show ([numS n] : List Str).length ≤ 102; simp) fun v hv => ?_
      rw [List.mem_singleton.mp hv]
      exact sw_num (by have := h.1; omega)
    · exact sl_block hn hd b _ h.2.2 ws hw
    · rw [List.mem_singleton.mp hw]
      exact sl_end
  | .ifP s z b c, d, h => by
    rw [linesP_if]
    rw [okP] at h
    intro ws hw
    rw [List.mem_append, List.mem_append, List.mem_append] at hw
    rcases hw with ((hw | hw) | hw) | hw
    · rw [List.mem_singleton.mp hw]
      exact sl_cons (sw_lit (by decide +kernel)) (by have := tsW_len (z := z) h.1; show (tsW s z).length ≤ 102; omega) (sw_ts hn h.1.1)
    · exact sl_block hn hd b _ h.2.2.1 ws hw
    · split at hw
      · cases hw
      · rcases List.mem_append.mp hw with e | e
        · rw [List.mem_singleton.mp e]
          exact sl_else
        · exact sl_block hn hd c _ h.2.2.2 ws e
    · rw [List.mem_singleton.mp hw]
      exact sl_end
theorem sl_block {names done : List Str} (hn : ∀ x ∈ names, isName x = true) (hd : ∀ x ∈ done, isName x = true) : ∀ (b : List Pt) (d : Nat), okB names done d b → ∀ ws ∈ linesB b, sl ws
  | [], d, h => by
    rw [linesB]
    intro ws hw
    cases hw
  | p :: r, d, h => by
    rw [okB] at h
    rw [linesB]
    intro ws hw
    rcases List.mem_append.mp hw with e | e
    · exact sl_part hn hd p d h.1 ws e
    · exact sl_block hn hd r d h.2 ws e
end
theorem sl_procs {names : List Str} (hn : ∀ x ∈ names, isName x = true) : ∀ (ps : List (Str × List Pt)) (done : List Str), (∀ x ∈ done, isName x = true) → okProcs names done ps → (∀ x ∈ ps.map (·.1), isName x = true) ∧ ∀ ws ∈ (ps.map procL).flatten, sl ws
  | [], done, _, _ => ⟨by simp, by simp⟩
  | q :: r, done, hd, h => by
    obtain ⟨x, b⟩ := q
    rw [okProcs] at h
    obtain ⟨h1, h2, h3, h4⟩ := h
    have hd' : ∀ y ∈ done ++ [x], isName y = true := fun y hy => by
      rcases List.mem_append.mp hy with e | e
      · exact hd y e
      · rw [List.mem_singleton.mp e]
        exact h1
    obtain ⟨i1, i2⟩ := sl_procs hn r (done ++ [x]) hd' h4
    refine ⟨fun y hy => ?_, fun ws hw => ?_⟩
    · rw [List.map_cons] at hy
      rcases List.mem_cons.mp hy with e | e
      · rw [e]
        exact h1
      · exact i1 y e
    · rw [List.map_cons, List.flatten_cons] at hw
      rcases List.mem_append.mp hw with e | e
      · have e' : ws ∈ [(["to", x] : List Str)] ++ linesB b ++ [(["end"] : List Str)] := e
        rw [List.mem_append, List.mem_append] at e'
        rcases e' with (e | e) | e
        · rw [List.mem_singleton.mp e]
          refine sl_cons (sw_lit (by decide +kernel)) (by show ([x] : List Str).length ≤ 102; simp) fun v hv => ?_
          rw [List.mem_singleton.mp hv]
          exact sw_name h1
        · exact sl_block hn hd b _ h3 ws e
        · rw [List.mem_singleton.mp e]
          exact sl_end
      · exact i2 ws e
theorem sl_prog {p : Pg} (h : okPg p) : ∀ ws ∈ progL p, sl ws := by
  obtain ⟨i1, i2⟩ := sl_procs h.nm p.procs [] (by simp) h.pr
  intro ws hw
  have hw' : ws ∈ [(["names"] : List Str) ++ p.names] ++ (p.procs.map procL).flatten ++ linesB p.block := hw
  rw [List.mem_append, List.mem_append] at hw'
  rcases hw' with (e | e) | e
  · rw [List.mem_singleton.mp e]
    exact sl_cons (sw_lit (by decide +kernel)) (by have := h.n5; show p.names.length ≤ 102; omega) fun v hv => sw_name (h.nm v hv)
  · exact i2 ws e
  · exact sl_block h.nm i1 p.block _ h.bl ws e
section
variable {P : Program} {w : World} {K : PySem.W.Frag} {mg : Str → Option Value} {base : Heap} {a : Ads}
theorem b_lines (T : Txt K mg w a) : ∀ n, CalG CX0 P w K mg base (n + 10) "lines_of" (spLinesOf n) []
  | 0 => by
    obtain ⟨f, fd, D, hm⟩ := T.d_lines_of
    exact ⟨f, fd, ["block"], [], FnOk.never fun vs H Q E h => by
      obtain ⟨_, _, _, _, _, _, _, _, _, _, h, _⟩ := h
      omega, hm, D.kp, D.bindsN (fun _ _ _ _ _ _ us hl => match us, hl with | [_], _ => rfl), .nil⟩
  | n + 1 => by
    have C_lines_of : CalG CX0 P w K mg base (n + 10) "lines_of" (spLinesOf n) [] := b_lines T n
    have C_sum_words_d : CalG CX0 P w K mg base 8 "sum_words" (spSumWords 7) [.bl false] := c_sum_words_d T
    have C_test_words : CalG CX0 P w K mg base 9 "test_words" spTestWords [] := c_test_words T
    obtain ⟨f, fd, D, hm⟩ := T.d_lines_of
    refine ⟨f, fd, _, _, D.ok sc_lines_of (fun vs H Q E h => ?_) (fun cdv A outer s H vs Q E hr h => ⟨_, PSs.nox ((pss_cons (ps_set (i := 1) sc_lines_of.nd rfl (Or.inl rfl) (pe_lst pa_nil))
      (pss_cons (ps_for PassesOwn.never rfl (pi_tup (pv 0)) (pg_name (i := 2) sc_lines_of.nd rfl (Or.inl rfl)) (pss_one (ps_if (pt_cmpR op_eq (pe_ix ix_tup (pv 2) pe_int (fun _ _ => rfl)) pe_str (nomark _)) (pss_one (ps_expr (pe_bm PySem.F.plainAttrs_list PySem.F.slot_list_append PySem.F.type_list_append mt_append (pv 1) (pa_cons (pe_op op_cat (pe_lst (pa_cons pe_str (pa_cons (pe_ix ix_tup (pv 2) pe_int (fun _ _ => rfl)) (pa_cons pe_str pa_nil)))) (pe_f0 C_sum_words_d hr (by omega) (by rfl) (pa_cons (pe_ix ix_tup (pv 2) pe_int (fun _ _ => rfl)) pa_nil))) pa_nil)))) (pss_one (ps_if (pt_cmpR op_eq (pe_ix ix_tup (pv 2) pe_int (fun _ _ => rfl)) pe_str (nomark _)) (pss_one (ps_expr (pe_bm PySem.F.plainAttrs_list PySem.F.slot_list_append PySem.F.type_list_append mt_append (pv 1) (pa_cons (pe_op op_cat (pe_lst (pa_cons pe_str pa_nil)) (pe_f0 C_sum_words_d hr (by omega) (by rfl) (pa_cons (pe_ix ix_tup (pv 2) pe_int (fun _ _ => rfl)) pa_nil))) pa_nil)))) (pss_one (ps_if (pt_cmpR op_eq (pe_ix ix_tup (pv 2) pe_int (fun _ _ => rfl)) pe_str (nomark _)) (pss_one (ps_aug (i := 1) sc_lines_of.nd rfl (Or.inl rfl) (pe_op op_cat (pe_op op_cat (pe_lst (pa_cons (pe_op op_cat (pe_lst (pa_cons pe_str pa_nil)) (pe_f0 C_test_words hr (by omega) (by rfl) (pa_cons (pe_ix ix_tup (pv 2) pe_int (fun _ _ => rfl)) pa_nil))) pa_nil)) (pe_f0 C_lines_of hr (by omega) (by rfl) (pa_cons (pe_ix ix_tup (pv 2) pe_int (fun _ _ => rfl)) pa_nil))) (pe_lst (pa_cons (pe_lst (pa_cons pe_str pa_nil)) pa_nil))) iop_ext)) (pss_one (ps_if (pt_cmpR op_eq (pe_ix ix_tup (pv 2) pe_int (fun _ _ => rfl)) pe_str (nomark _)) (pss_one (ps_aug (i := 1) sc_lines_of.nd rfl (Or.inl rfl) (pe_op op_cat (pe_op op_cat (pe_lst (pa_cons (pe_lst (pa_cons pe_str (pa_cons (pe_callTy call_str_int (by rfl) T.b_str (by decide +kernel) (pa_cons (pe_ix ix_tup (pv 2) pe_int (fun _ _ => rfl)) pa_nil)) pa_nil))) pa_nil)) (pe_f0 C_lines_of hr (by omega) (by rfl) (pa_cons (pe_ix ix_tup (pv 2) pe_int (fun _ _ => rfl)) pa_nil))) (pe_lst (pa_cons (pe_lst (pa_cons pe_str pa_nil)) pa_nil))) iop_ext)) (pss_one (ps_if (pt_cmpR op_eq (pe_ix ix_tup (pv 2) pe_int (fun _ _ => rfl)) pe_str (nomark _)) (pss_cons (ps_set (i := 3) sc_lines_of.nd rfl (Or.inl rfl) (pe_ifExp (pt_cmpR (op_neM hr.units) (pe_ix ix_tup (pv 2) pe_int (fun _ _ => rfl)) (pe_tup pa_nil) (nomark _)) (pe_op op_cat (pe_lst (pa_cons (pe_lst (pa_cons pe_str pa_nil)) pa_nil)) (pe_f0 C_lines_of hr (by omega) (by rfl) (pa_cons (pe_ix ix_tup (pv 2) pe_int (fun _ _ => rfl)) pa_nil))) (pe_lst pa_nil)))
      (pss_one (ps_aug (i := 1) sc_lines_of.nd rfl (Or.inl rfl) (pe_op op_cat (pe_op op_cat (pe_op op_cat (pe_lst (pa_cons (pe_op op_cat (pe_lst (pa_cons pe_str pa_nil)) (pe_f0 C_test_words hr (by omega) (by rfl) (pa_cons (pe_ix ix_tup (pv 2) pe_int (fun _ _ => rfl)) pa_nil))) pa_nil)) (pe_f0 C_lines_of hr (by omega) (by rfl) (pa_cons (pe_ix ix_tup (pv 2) pe_int (fun _ _ => rfl)) pa_nil))) (pv 3)) (pe_lst (pa_cons (pe_lst (pa_cons pe_str pa_nil)) pa_nil))) iop_ext))) (pss_one (ps_expr (pe_bm PySem.F.plainAttrs_list PySem.F.slot_list_append PySem.F.type_list_append mt_append (pv 1) (pa_cons (pe_callTy call_list_of (by rfl) T.b_list (by decide +kernel) (pa_cons (pv 2) pa_nil)) pa_nil)))))))))))))))
      (pss_one (ps_ret (pv 1)))))), ?_⟩), hm, D.kp, D.bindsN (fun _ _ _ _ _ _ us hl => match us, hl with | [_], _ => rfl), .nil⟩
    · obtain ⟨v, b, names, done, d, rfl, _⟩ := h
      rfl
    · obtain ⟨v, b, names, done, d, rfl, hv, hok, hn, hdn, hh, hz, k⟩ := h
      obtain ⟨ad, xs, rfl, had, hxs⟩ := id hv
      have hlen : xs.length = b.length := by
        rw [TdL.len hxs, ePs_map, List.length_map]
      refine q_asgLL ll_nil fun l ys H1 hl0 e1 hl hls => ?_
      refine q_forT (xs := xs) (ev_var rfl) (sumT e1 had) (fun i σ' H' => ∃ x y : Option V, σ' = [some (.ref ad), some (.ref l), x, y] ∧ Lo H H' l (linesB (b.take i))) (fun H2 e2 => ⟨none, none, rfl, (⟨hl0, e1, _, hl, hls⟩ : Lo H H1 l []).mono e2⟩) (fun i σ' H' _ ⟨_, _, _, g⟩ => sumT g.e had) ?_ ?_
      · rintro i x σ' H' hx ⟨x0, y0, rfl, g⟩
        obtain ⟨dt, hdt, htd⟩ := hxs.get hx
        obtain ⟨p, hp, rfl⟩ := ePs_get hdt
        have htp := htB_get hp
        have hzp := szB_get hp
        have hkp := okB_get hok hp
        have hll := linesB_len (b.take i)
        have hti := linesB_take hp
        have hbi : (linesB (b.take i)).length ≤ 3000 := by
          have := szTake b i
          omega
        have htd' := htd.ex g.e
        cases p with
        | letP x s =>
          rw [eP] at htd'
          obtain ⟨pa, rs, rfl, hpa, v0, r0, rfl, q0, v1, r1, rfl, q1, v2, r2, rfl, q2, q3⟩ := htd'
          cases (show v0 = .str "let" from q0)
          cases (show v1 = .str x from q1)
          cases (show r2 = [] from q3)
          rw [okP] at hkp
          have hT : ∀ H1, Ex H' H1 → SqT K H1 pa [.str "let", .str x, v2] := fun H1 e => sumT e hpa
          obtain ⟨x1, x2, x3⟩ := sumW_len s
          have h24 := hkp.2.2.2
          have h6 := hkp.2.2.1
          refine s_if (b := true) (et_w (ev_w0 (ev_var rfl) (hT _ (Ex.refl _))) (decide_eq_true rfl)) (fun _ H2 e2 => ?_) fun h => nomatch h
          refine s_appLL (g.mono e2) (ws := (["let", x, "="] : List Str) ++ sumW s false) (ev_var rfl) (el_is (xs := [V.str "let", V.str x, V.str "="] ++ (sumW s false).map V.str) (el_cat (el_lst (vs := [V.str "let", V.str x, V.str "="]) (ea_cons ev_c (ea_cons (ev_w1 (ev_var rfl) (hT _ e2)) (ea_cons ev_c ea_nil))) (by simp))
            (el_call (ea_cons (ev_w2 (ev_var rfl) (hT _ e2)) ea_nil) fun H3 e3 Q' q E' => ⟨v2, names, s, false, rfl, q2.ex (e2.trans e3), hkp.2.1, by omega, h24, q⟩) (by simp only [List.length_map, List.length_cons, List.length_nil]; omega)) (by simp)) (by omega) fun H3 g3 => ⟨_, _, rfl, ?_⟩
          rw [hti, linesP]
          exact g3
          all_goals (intros; contradiction)
        | say s =>
          rw [eP] at htd'
          obtain ⟨pa, rs, rfl, hpa, v0, r0, rfl, q0, v1, r1, rfl, q1, q3⟩ := htd'
          cases (show v0 = .str "say" from q0)
          cases (show r1 = [] from q3)
          rw [okP] at hkp
          have hT : ∀ H1, Ex H' H1 → SqT K H1 pa [.str "say", v1] := fun H1 e => sumT e hpa
          obtain ⟨x1, x2, x3⟩ := sumW_len s
          have h24 := hkp.2.2
          have h6 := hkp.2.1
          refine s_if (b := false) (et_w (ev_w0 (ev_var rfl) (hT _ (Ex.refl _))) (by decide +kernel)) (fun h => nomatch h) fun _ H2 e2 => ?_
          refine s_if (b := true) (et_w (ev_w0 (ev_var rfl) (hT _ e2)) (decide_eq_true rfl)) (fun _ H3 e3' => ?_) fun h => nomatch h
          have e3 := e2.trans e3'
          refine s_appLL (g.mono e3) (ws := (["say"] : List Str) ++ sumW s false) (ev_var rfl) (el_is (xs := [.str "say"] ++ (sumW s false).map V.str) (el_cat (el_lst (ea_cons ev_c ea_nil) (by simp))
            (el_call (ea_cons (ev_w1 (ev_var rfl) (hT _ e3)) ea_nil) fun H3 e4 Q' q E' => ⟨v1, names, s, false, rfl, q1.ex (e3.trans e4), hkp.1, by omega, h24, q⟩) (by simp only [List.length_map, List.length_cons, List.length_nil]; omega)) (by simp)) (by omega) fun H3 g3 => ⟨_, _, rfl, ?_⟩
          rw [hti, linesP]
          exact g3
          all_goals (intros; contradiction)
        | whl s z c =>
          rw [eP] at htd'
          obtain ⟨pa, rs, rfl, hpa, v0, r0, rfl, q0, v1, r1, rfl, q1, v2, r2, rfl, q2, q3⟩ := htd'
          cases (show v0 = .str "while" from q0)
          cases (show r2 = [] from q3)
          rw [okP] at hkp
          rw [htP] at htp
          rw [szP] at hzp
          have hT : ∀ H1, Ex H' H1 → SqT K H1 pa [.str "while", v1, v2] := fun H1 e => sumT e hpa
          have hc := linesB_len c
          have ht := tsW_len (z := z) hkp.1
          refine s_if (b := false) (et_w (ev_w0 (ev_var rfl) (hT _ (Ex.refl _))) (by decide +kernel)) (fun h => nomatch h) fun _ H2 e2 => ?_
          refine s_if (b := false) (et_w (ev_w0 (ev_var rfl) (hT _ e2)) (by decide +kernel)) (fun h => nomatch h) fun _ H3 e3' => ?_
          have e3 := e2.trans e3'
          refine s_if (b := true) (et_w (ev_w0 (ev_var rfl) (hT _ e3)) (decide_eq_true rfl)) (fun _ H4 e4' => ?_) fun h => nomatch h
          have e4 := e3.trans e4'
          refine s_augLL (ms := [(["while"] : List Str) ++ tsW s z] ++ linesB c ++ [(["end"] : List Str)]) rfl (g.mono e4) ((g.mono e4).evb (ll_cat (ll_cat (ll_one (el_is (xs := [.str "while"] ++ (tsW s z).map V.str) (el_cat (el_lst (ea_cons ev_c ea_nil) (by simp))
              (el_call (ea_cons (ev_w1 (ev_var rfl) (hT _ e4)) ea_nil) fun H5 e5 Q' q E' => ⟨v1, names, s, z, rfl, q1.ex (e4.trans e5), hkp.1, q⟩) (by simp only [List.length_map, List.length_cons, List.length_nil]; omega)) (by simp)))
            (ll_call (ea_cons (ev_w2 (ev_var rfl) (hT _ e4)) ea_nil) fun H5 e5 Q' q E' => ⟨v2, c, names, done, d + 1, rfl, q2.ex (e4.trans e5), hkp.2.2, hn, hdn, by omega, by omega, q⟩) (by simp only [List.length_cons, List.length_nil]; omega))
            (ll_one (ws := (["end"] : List Str)) (el_lst (ea_cons ev_c ea_nil) (by simp))) (by simp only [List.length_append, List.length_cons, List.length_nil]; omega))) (by simp only [List.length_append, List.length_cons, List.length_nil]; omega) fun H5 g5 => ⟨_, _, rfl, ?_⟩
          rw [hti, linesP]
          exact g5
        | rep m c =>
          rw [eP] at htd'
          obtain ⟨pa, rs, rfl, hpa, v0, r0, rfl, q0, v1, r1, rfl, q1, v2, r2, rfl, q2, q3⟩ := htd'
          cases (show v0 = .str "repeat" from q0)
          cases (show v1 = .int m from q1)
          cases (show r2 = [] from q3)
          rw [okP] at hkp
          rw [htP] at htp
          rw [szP] at hzp
          have hT : ∀ H1, Ex H' H1 → SqT K H1 pa [.str "repeat", .int m, v2] := fun H1 e => sumT e hpa
          have hc := linesB_len c
          have hm6 := hkp.1
          refine s_if (b := false) (et_w (ev_w0 (ev_var rfl) (hT _ (Ex.refl _))) (by decide +kernel)) (fun h => nomatch h) fun _ H2 e2 => ?_
          refine s_if (b := false) (et_w (ev_w0 (ev_var rfl) (hT _ e2)) (by decide +kernel)) (fun h => nomatch h) fun _ H3 e3' => ?_
          have e3 := e2.trans e3'
          refine s_if (b := false) (et_w (ev_w0 (ev_var rfl) (hT _ e3)) (by decide +kernel)) (fun h => nomatch h) fun _ H4 e4' => ?_
          have e4 := e3.trans e4'
          refine s_if (b := true) (et_w (ev_w0 (ev_var rfl) (hT _ e4)) (decide_eq_true rfl)) (fun _ H5 e5' => ?_) fun h => nomatch h
          have e5 := e4.trans e5'
          refine s_augLL (ms := [(["repeat", numS m] : List Str)] ++ linesB c ++ [(["end"] : List Str)]) rfl (g.mono e5) ((g.mono e5).evb (ll_cat (ll_cat (ll_one (ws := (["repeat", numS m] : List Str)) (el_lst (ea_cons ev_c (ea_cons (ev_strI (ev_w1 (ev_var rfl) (hT _ e5)) (by omega)) ea_nil)) (by simp)))
            (ll_call (ea_cons (ev_w2 (ev_var rfl) (hT _ e5)) ea_nil) fun H5 e6 Q' q E' => ⟨v2, c, names, done, d + 1, rfl, q2.ex (e5.trans e6), hkp.2.2, hn, hdn, by omega, by omega, q⟩) (by simp only [List.length_cons, List.length_nil]; omega))
            (ll_one (ws := (["end"] : List Str)) (el_lst (ea_cons ev_c ea_nil) (by simp))) (by simp only [List.length_append, List.length_cons, List.length_nil]; omega))) (by simp only [List.length_append, List.length_cons, List.length_nil]; omega) fun H5 g5 => ⟨_, _, rfl, ?_⟩
          rw [hti, linesP]
          exact g5
        | ifP s z b1 c =>
          rw [eP] at htd'
          obtain ⟨pa, rs, rfl, hpa, v0, r0, rfl, q0, v1, r1, rfl, q1, v2, r2, rfl, q2, v3, r3, rfl, q3, q4⟩ := htd'
          cases (show v0 = .str "if" from q0)
          cases (show r3 = [] from q4)
          rw [okP] at hkp
          rw [htP] at htp
          rw [szP] at hzp
          have hT : ∀ H1, Ex H' H1 → SqT K H1 pa [.str "if", v1, v2, v3] := fun H1 e => sumT e hpa
          have hc := linesB_len c
          have hb1 := linesB_len b1
          have ht := tsW_len (z := z) hkp.1
          refine s_if (b := false) (et_w (ev_w0 (ev_var rfl) (hT _ (Ex.refl _))) (by decide +kernel)) (fun h => nomatch h) fun _ H2 e2 => ?_
          refine s_if (b := false) (et_w (ev_w0 (ev_var rfl) (hT _ e2)) (by decide +kernel)) (fun h => nomatch h) fun _ H3 e3' => ?_
          have e3 := e2.trans e3'
          refine s_if (b := false) (et_w (ev_w0 (ev_var rfl) (hT _ e3)) (by decide +kernel)) (fun h => nomatch h) fun _ H4 e4' => ?_
          have e4 := e3.trans e4'
          refine s_if (b := false) (et_w (ev_w0 (ev_var rfl) (hT _ e4)) (by decide +kernel)) (fun h => nomatch h) fun _ H5 e5' => ?_
          have e5 := e4.trans e5'
          refine s_if (b := true) (et_w (ev_w0 (ev_var rfl) (hT _ e5)) (decide_eq_true rfl)) (fun _ H6 e6' => ?_) fun h => nomatch h
          have e6 := e5.trans e6'
          have g6 := g.mono e6
          refine q_asgB (ls := if c.isEmpty = true then [] else [(["else"] : List Str)] ++ linesB c) (g6.evb (ll_if (b := !c.isEmpty) (et_is (et_test (ev_neU (ev_w3 (ev_var rfl) (hT _ e6)) (q3.ex e6) (dtA_B hn hdn c _ hkp.2.2.2))) (by cases c <;> rfl)) (fun hb => ?_) (fun hb => ?_))) fun l2 ys H7 hl20 e7' hl2 hls2 => ?_
          · rw [if_neg (by intro h; rw [h] at hb; cases hb)]
            exact ll_cat (ll_one (ws := (["else"] : List Str)) (el_lst (ea_cons ev_c ea_nil) (by simp))) (ll_call (ea_cons (ev_w3 (ev_var rfl) (hT _ e6)) ea_nil) fun H5 e7 Q' q E' => ⟨v3, c, names, done, d + 1, rfl, q3.ex (e6.trans e7), hkp.2.2.2, hn, hdn, by omega, by omega, q⟩) (by simp only [List.length_cons, List.length_nil]; omega)
          · rw [if_pos (by cases h : c.isEmpty with | true => rfl | false => rw [h] at hb; cases hb)]
            exact ll_nil
          have e7 := e6.trans e7'
          have g7 := g6.mono e7'
          have hce : (if c.isEmpty = true then [] else [(["else"] : List Str)] ++ linesB c).length ≤ 3001 := by
            split
            · simp
            · simp only [List.length_append, List.length_cons, List.length_nil]
              omega
          refine s_augLL (ms := [(["if"] : List Str) ++ tsW s z] ++ linesB b1 ++ (if c.isEmpty = true then [] else [(["else"] : List Str)] ++ linesB c) ++ [(["end"] : List Str)]) rfl g7
            (lb_cat (lb_catW (g7.evb (ll_cat (ll_one (el_is (xs := [.str "if"] ++ (tsW s z).map V.str) (el_cat (el_lst (ea_cons ev_c ea_nil) (by simp))
              (el_call (ea_cons (ev_w1 (ev_var rfl) (hT _ e7)) ea_nil) fun H8 e8 Q' q E' => ⟨v1, names, s, z, rfl, q1.ex (e7.trans e8), hkp.1, q⟩) (by simp only [List.length_map, List.length_cons, List.length_nil]; omega)) (by simp)))
            (ll_call (ea_cons (ev_w2 (ev_var rfl) (hT _ e7)) ea_nil) fun H8 e8 Q' q E' => ⟨v2, b1, names, done, d + 1, rfl, q2.ex (e7.trans e8), hkp.2.2.1, hn, hdn, by omega, by omega, q⟩) (by simp only [List.length_cons, List.length_nil]; omega)))
              (ev_var rfl) hl2 hls2 (by simp only [List.length_append, List.length_cons, List.length_nil]; omega))
            (g7.evb (ll_one (ws := (["end"] : List Str)) (el_lst (ea_cons ev_c ea_nil) (by simp)))) (by simp only [List.length_append, List.length_cons, List.length_nil]; omega)) (by simp only [List.length_append, List.length_cons, List.length_nil]; omega) fun H8 g8 => ⟨_, _, rfl, ?_⟩
          rw [hti, linesP_if]
          exact g8
        | _ =>
          rw [eP] at htd'
          rw [okP] at hkp
          first
          | obtain ⟨pa, rs, rfl, hpa, v0, r0, rfl, q0, v1, r1, rfl, q1, q3⟩ := htd'
            cases (show v0 = .str _ from q0)
            cases (show v1 = .str _ from q1)
            cases (show r1 = [] from q3)
          | obtain ⟨pa, rs, rfl, hpa, v0, r0, rfl, q0, q3⟩ := htd'
            cases (show v0 = .str _ from q0)
            cases (show r0 = [] from q3)
          refine s_if (b := false) (et_w (ev_w0 (ev_var rfl) (sumT (Ex.refl _) hpa)) (by decide +kernel)) (fun h => nomatch h) fun _ H2 e2 => ?_
          refine s_if (b := false) (et_w (ev_w0 (ev_var rfl) (sumT e2 hpa)) (by decide +kernel)) (fun h => nomatch h) fun _ H3 e3' => ?_
          have e3 := e2.trans e3'
          refine s_if (b := false) (et_w (ev_w0 (ev_var rfl) (sumT e3 hpa)) (by decide +kernel)) (fun h => nomatch h) fun _ H4 e4' => ?_
          have e4 := e3.trans e4'
          refine s_if (b := false) (et_w (ev_w0 (ev_var rfl) (sumT e4 hpa)) (by decide +kernel)) (fun h => nomatch h) fun _ H5 e5' => ?_
          have e5 := e4.trans e5'
          refine s_if (b := false) (et_w (ev_w0 (ev_var rfl) (sumT e5 hpa)) (by decide +kernel)) (fun h => nomatch h) fun _ H6 e6' => ?_
          have e6 := e5.trans e6'
          first
          | refine s_appLL (g.mono e6) (ws := [_, _]) (ev_var rfl) (el_listT (ev_var rfl) (sumT e6 hpa)) (by omega) fun H3 g3 => ⟨_, _, rfl, ?_⟩
            rw [hti, linesP]
            exact g3
          | refine s_appLL (g.mono e6) (ws := [_]) (ev_var rfl) (el_listT (ev_var rfl) (sumT e6 hpa)) (by omega) fun H3 g3 => ⟨_, _, rfl, ?_⟩
            rw [hti, linesP]
            exact g3
      · rintro σ' H' ⟨x0, y0, rfl, g⟩
        rw [hlen, List.take_length] at g
        obtain ⟨zs, h1, h2⟩ := g.at_
        exact s_ret (v := .ref l) (ev_var rfl) fun H4 e4 => k l zs H4 hl0 (g.e.trans e4) (e4 _ _ h1) (h2.mono (fun _ h => h) e4)
theorem c_lines_of (T : Txt K mg w a) : CalG CX0 P w K mg base 17 "lines_of" (spLinesOf 7) [] := b_lines T 7
theorem txt_len (S : Str) : ∀ (xs : List Str) (n : Nat), (∀ x ∈ xs, x.length ≤ n) → (xs.map (·.length)).sum + xs.length * S.length ≤ xs.length * (n + S.length)
  | [], n, _ => by simp
  | x :: xs, n, h => by
    have h1 := h x List.mem_cons_self
    have h2 := txt_len S xs n fun y hy => h y (List.mem_cons_of_mem _ hy)
    have e : (x :: xs).length * (n + S.length) = xs.length * (n + S.length) + (n + S.length) := by rw [List.length_cons, Nat.succ_mul]
    have e2 : (x :: xs).length * S.length = xs.length * S.length + S.length := by rw [List.length_cons, Nat.succ_mul]
    rw [List.map_cons, List.sum_cons, e, e2]
    omega
theorem jn_len0 (S : Str) : ∀ xs : List Str, (Str.join S xs).length ≤ (xs.map (·.length)).sum + xs.length * S.length
  | xs => by
    rw [len_tl, tl_join]
    have key : ∀ ps : List (List Nat), (joinL (tl S) ps).length ≤ (ps.map (·.length)).sum + ps.length * (tl S).length := by
      intro ps
      induction ps with
      | nil => simp [joinL]
      | cons p r ih =>
        cases r with
        | nil =>
          show p.length ≤ _
          simp
        | cons q r =>
          show (p ++ (tl S ++ joinL (tl S) (q :: r))).length ≤ _
          have e2 : (p :: q :: r).length * (tl S).length = (q :: r).length * (tl S).length + (tl S).length := by rw [List.length_cons, Nat.succ_mul]
          rw [List.length_append, List.length_append, List.map_cons, List.sum_cons, e2]
          omega
    have := key (xs.map tl)
    rw [List.map_map, List.length_map] at this
    have e : (List.length ∘ tl) = fun x : Str => x.length := by
      funext x
      exact (len_tl x).symm
    rw [e, ← len_tl S] at this
    exact this
theorem jn_len {ws : List Str} (h : sl ws) : (ws.map (·.length)).sum + ws.length * (" " : Str).length ≤ 927 := by
  have := txt_len " " ws 8 fun x hx => (h.2 x hx).1
  have e : (" " : Str).length = 1 := by decide +kernel
  rw [e] at this ⊢
  have := h.1
  omega
theorem procs_len : ∀ ps : List (Str × List Pt), (ps.map procL).flatten.length ≤ 3 * szProcs ps + 2 * ps.length
  | [] => by simp
  | q :: r => by
    have h1 := procs_len r
    have h2 := linesB_len q.2
    have e : (procL q).length = (linesB q.2).length + 2 := by
      show ([(["to", q.1] : List Str)] ++ linesB q.2 ++ [(["end"] : List Str)]).length = _
      simp only [List.length_append, List.length_cons, List.length_nil]
      omega
    rw [List.map_cons, List.flatten_cons, List.length_append, szProcs, e, List.length_cons]
    omega
theorem prog_len {p : Pg} (h : okPg p) : (progL p).length ≤ 200 := by
  have h1 := procs_len p.procs
  have h2 := linesB_len p.block
  have h3 := h.sz
  have h4 := h.pl
  show ([(["names"] : List Str) ++ p.names] ++ (p.procs.map procL).flatten ++ linesB p.block).length ≤ 200
  simp only [List.length_append, List.length_cons, List.length_nil]
  omega
theorem jn_le {ws : List Str} (h : sl ws) : (jn ws).length ≤ 927 := Nat.le_trans (jn_len0 _ _) (jn_len h)
theorem text_sum {p : Pg} (h : okPg p) : (((progL p).map jn).map (·.length)).sum + ((progL p).map jn).length * ("\n" : Str).length ≤ 200000 := by
  have := txt_len "\n" ((progL p).map jn) 927 fun x hx => by
    obtain ⟨ws, hw, rfl⟩ := List.mem_map.mp hx
    exact jn_le (sl_prog h ws hw)
  have e : ("\n" : Str).length = 1 := by decide +kernel
  rw [e] at this ⊢
  have hl := prog_len h
  rw [List.length_map] at this ⊢
  omega
theorem text_len {p : Pg} (h : okPg p) : (textOf p).length ≤ 200000 := Nat.le_trans (jn_len0 _ _) (text_sum h)
/-- sep.join(a new list of texts) -/
def rJoin (K : PySem.W.Frag) : V → List V → Hp → VK → Prop := fun x xs H Q => ∃ a p, ∃ ys : List Str, x = .str a ∧ xs = [.ref p] ∧ (SqL K H p (ys.map V.str) ∨ SqT K H p (ys.map V.str)) ∧
    (ys.map (·.length)).sum + ys.length * a.length ≤ 16777216 ∧ Q (.str (Txt.join a ys)) H
theorem pe_joinK {X : Cx} {K : PySem.W.Frag} {o e : Expr} {to te : TE} {apos pos : Pos} (hK : X.K = K) (ho : PE X o to) (he : PE X e te) (hs : starEach [e] X.env = [(false, eval e X.env)] := by rfl) (hbase : attributeBase o "join" X.env (eval o X.env) = eval o X.env := by rfl) (hline : (apos.endLine == pos.line) = true := by rfl) :
    PE X (.Call (.Attribute o "join" apos) [e] [] pos) (tM1 (rJoin K) to te) := by
  subst hK
  exact pe_join ho he hs hbase hline
theorem ev_join {K : PySem.W.Frag} {σ : L2.St} {H : Hp} {to te : TE} {s : Str} {ys : List Str} (ho : Ev to σ H (.str s)) (h : EvL te σ H (ys.map V.str)) (hl : (ys.map (·.length)).sum + ys.length * s.length ≤ 16777216) : Ev (tM1 (rJoin K) to te) σ H (.str (Str.join s ys)) := fun H1 e Q q =>
  ho H1 e _ fun H2 e2 => ⟨⟨s, rfl⟩, h H2 (e.trans e2) _ fun p H3 hp e3 h3 => ⟨s, p, ys, rfl, rfl, .inl (sq_of h3), hl, by rw [join_eq]; exact q H3 (e2.trans e3)⟩⟩
theorem ev_joinV {K : PySem.W.Frag} {σ : L2.St} {H : Hp} {to te : TE} {s : Str} {p : Addr} {ys : List Str} (ho : Ev to σ H (.str s)) (h : Ev te σ H (.ref p)) (hp : H p = some (.lst (ys.map V.str)) ∨ H p = some (.tup (ys.map V.str))) (hl : (ys.map (·.length)).sum + ys.length * s.length ≤ 16777216) : Ev (tM1 (rJoin K) to te) σ H (.str (Str.join s ys)) := fun H1 e Q q =>
  ho H1 e _ fun H2 e2 => ⟨⟨s, rfl⟩, h H2 (e.trans e2) _ fun H3 e3 => ⟨s, p, ys, rfl, rfl, by
    rcases hp with hp | hp
    · exact .inl (sq_of (e3 _ _ (e2 _ _ (e _ _ hp))))
    · exact .inr (st_of (e3 _ _ (e2 _ _ (e _ _ hp)))), hl, by rw [join_eq]; exact q H3 (e2.trans e3)⟩⟩
/-- [g for words in lists] -/
theorem el_lcLL {K : PySem.W.Frag} {σ : L2.St} {H H0 : Hp} {l : Addr} {tt : TT} {te tl' : TE} {j : Nat} {vs : List Nat} {ls : List (List Str)} (g : List Str → Str) (h : EvB H0 l tl' σ H ls) (hz : ls.length ≤ 40000) (hw : ∀ x, wipe ((wipe σ vs).set j (some x)) vs = wipe σ vs)
    (ht : ∀ (x : V) H1, EvT tt ((wipe σ vs).set j (some x)) H1 true) (he : ∀ (ws : List Str) (q : Addr) H1, ws ∈ ls → H1 q = some (.lst (ws.map V.str)) → Ev te ((wipe σ vs).set j (some (.ref q))) H1 (.str (g ws))) :
    EvL (tLc (iList K tl') (gName j) tt te vs) σ H ((ls.map g).map V.str) := fun H1 e Q q => h H1 e _ fun a xs H2 ha e1 hx hl => ⟨a, rfl, ⟨xs, sq_of hx⟩, fun Dl hD => by
  have hlen := hl.len
  have eg : given xs.length (fun _ => true) (fun i => .str (g (ls.getD i []))) = (ls.map g).map V.str := by
    rw [given_all, hlen, range_get ls (fun ws => V.str (g ws)) [], List.map_map]
    rfl
  exact lc_list (xs := xs) (Cw H2 (fun _ => true) (fun i => .str (g (ls.getD i []))) Dl) ⟨hD, Ex.new hD, upd_same⟩ (fun i H' _ p => sq_of (p.2.1 a _ hx)) (fun i x H' hi p => ⟨hw x, cw_turn p (by have := (List.getElem?_eq_some_iff.mp hi).1; omega) (ht x H2) (fun _ => by
    obtain ⟨ws, q', h1, rfl, h3⟩ := hl.get hi
    have : ls.getD i [] = ws := by rw [List.getD_eq_getElem?_getD, h1]; rfl
    rw [this]
    exact he ws q' H2 (List.mem_of_getElem? h1) h3)⟩) (fun H' p => q Dl H' (fresh_back e1 p.1) (e1.trans p.2.1) (by rw [← eg]; exact p.2.2))⟩
def spWrite : Sp := fun vs H Q _ => ∃ (v : V) (p : Pg), vs = [v] ∧ Td H (eG p) v ∧ okPg p ∧ RetV (.str (textOf p)) H Q
theorem lines_take {ps : List (Str × List Pt)} {i : Nat} {q : Str × List Pt} (h : ps[i]? = some q) : ((ps.take (i + 1)).map procL).flatten = ((ps.take i).map procL).flatten ++ procL q := by
  rw [List.take_add_one, h]
  simp
theorem c_write_blocks (T : Txt K mg w a) : CalG CX0 P w K mg base 25 "write_blocks" spWrite [] := by
  have C_need_block_program : CalG CX0 P w K mg base 24 "need_block_program" spNeed [] := c_need T
  have C_lines_of : CalG CX0 P w K mg base 17 "lines_of" (spLinesOf 7) [] := c_lines_of T
  obtain ⟨f, fd, D, hm⟩ := T.d_write_blocks
  refine ⟨f, fd, _, _, D.ok sc_write_blocks (fun vs H Q E h => ?_) (fun cdv A outer s H vs Q E hr h => ⟨_, PSs.nox ((pss_cons (ps_expr (pe_f0 C_need_block_program hr (by omega) (by rfl) (pa_cons (pv 0) pa_nil)))
      (pss_cons (ps_set (i := 1) sc_write_blocks.nd rfl (Or.inl rfl) (pe_lst (pa_cons (pe_op op_cat (pe_lst (pa_cons pe_str pa_nil)) (pe_callTy call_list_of (by rfl) T.b_list (by decide +kernel) (pa_cons (pe_ix ix_tup (pv 0) pe_int (fun _ _ => rfl)) pa_nil))) pa_nil)))
      (pss_cons (ps_for PassesOwn.never rfl (pi_tup (pe_ix ix_tup (pv 0) pe_int (fun _ _ => rfl))) (pg_tup (by rfl) (pgs_cons (pg_name (i := 2) sc_write_blocks.nd rfl (Or.inl rfl)) (pgs_cons (pg_name (i := 3) sc_write_blocks.nd rfl (Or.inl rfl)) pgs_nil))) (pss_one (ps_aug (i := 1) sc_write_blocks.nd rfl (Or.inl rfl) (pe_op op_cat (pe_op op_cat (pe_lst (pa_cons (pe_lst (pa_cons pe_str (pa_cons (pv 2) pa_nil))) pa_nil)) (pe_f0 C_lines_of hr (by omega) (by rfl) (pa_cons (pv 3) pa_nil))) (pe_lst (pa_cons (pe_lst (pa_cons pe_str pa_nil)) pa_nil))) iop_ext)))
      (pss_one (ps_ret (pe_joinK (K := K) rfl pe_str (pe_lc (own := [("words", 4)]) rfl sc_write_blocks.nd (pi_list (pe_op op_cat (pv 1) (pe_f0 C_lines_of hr (by omega) (by rfl) (pa_cons (pe_ix ix_tup (pv 0) pe_int (fun _ _ => rfl)) pa_nil)))) (blkOk_by (N := ["program", "lines", "name", "block", "words"]) (sc := defScope st_write_blocks) (by decide +kernel)) (fun _ _ _ _ _ => (pg_name (i := 4) sc_write_blocks.nd rfl (Or.inl rfl))) (fun _ _ _ _ _ => pts_nil) (fun _ _ _ _ _ => (pe_joinK (K := K) rfl pe_str (pv 4))))))))))), ?_⟩), hm, D.kp, D.bindsN (fun _ _ _ _ _ _ us hl => match us, hl with | [_], _ => rfl), .nil⟩
  · obtain ⟨v, p, rfl, _⟩ := h
    rfl
  · obtain ⟨v, p, rfl, hv, hp, k⟩ := h
    obtain ⟨ad, xs, rfl, had, v1, r1, rfl, ⟨na, ns, rfl, hna, hns⟩, v2, r2, rfl, ⟨pa, ps, rfl, hpa, hps⟩, v3, r3, rfl, hb, q4⟩ := id hv
    cases (show r3 = [] from q4)
    have hns' := hns.strs
    subst hns'
    have hT : ∀ H1, Ex H H1 → SqT K H1 ad [.ref na, .ref pa, v3] := fun H1 e => sumT e had
    have hpl : ps.length = p.procs.length := by rw [TdL.len hps, List.length_map]
    have hpn := okProcs_names hp.pr
    have h4 := hp.pl
    have hsz := hp.sz
    have hn5 := hp.n5
    have hbl := linesB_len p.block
    refine q_drop (ev_call (z := .non) (ea_cons (ev_var rfl) ea_nil) fun H1 e1 Q' q E' => ⟨_, p, rfl, hv.ex e1, hp, q⟩) fun H1 e1 => ?_
    refine q_asgLL (ls := [(["names"] : List Str) ++ p.names]) (ll_one (el_is (xs := [V.str "names"] ++ p.names.map V.str) (el_cat (el_lst (ea_cons ev_c ea_nil) (by simp)) (el_listT (ev_w0 (ev_var rfl) (hT _ e1)) (sumT e1 hna)) (by simp only [List.length_map, List.length_cons, List.length_nil]; omega)) (by simp))) fun l ys H2 hl0 e2 hl hls => ?_
    have hl00 := fresh_back e1 hl0
    have e12 := e1.trans e2
    refine q_forT (xs := ps) (ev_w1 (ev_var rfl) (hT _ e12)) (sumT e12 hpa) (fun i σ' H' => ∃ x y : Option V, σ' = [some (.ref ad), some (.ref l), x, y, none] ∧ Lo H H' l ([(["names"] : List Str) ++ p.names] ++ ((p.procs.take i).map procL).flatten))
      (fun H3 e3 => ⟨none, none, rfl, (⟨hl00, e12, _, hl, hls.mono (fun _ => NewTo.back e1) (Ex.refl _)⟩ : Lo H H2 l [(["names"] : List Str) ++ p.names]).mono e3⟩) (fun i σ' H' _ ⟨_, _, _, g⟩ => sumT g.e hpa) ?_ ?_
    · rintro i x σ' H' hx ⟨x0, y0, rfl, g⟩
      obtain ⟨dt, hdt, htd⟩ := hps.get hx
      rw [List.getElem?_map] at hdt
      cases hq : p.procs[i]? with
      | none =>
        rw [hq] at hdt
        cases hdt
      | some q =>
        rw [hq] at hdt
        cases hdt
        obtain ⟨qa, ys, rfl, hqa, w1, s1, rfl, f1, w2, s2, rfl, f2, f3⟩ := htd
        cases (show w1 = .str q.1 from f1)
        cases (show s2 = [] from f3)
        obtain ⟨g1, g2, g3⟩ := okProcs_get hp.pr hq
        rw [List.nil_append] at g3
        have hzi := szProcs_le (ps := p.procs) (i + 1)
        rw [szProcs_take hq] at hzi
        have hbq := linesB_len q.2
        have hpr := procs_len (p.procs.take i)
        have hz2 := szProcs_le (ps := p.procs) i
        have hi4 : (p.procs.take i).length ≤ 4 := by rw [List.length_take]; omega
        have hdn : ∀ x ∈ (p.procs.take i).map (·.1), isName x = true := fun y hy => hpn y (by
          obtain ⟨z, hz, ez⟩ := List.mem_map.mp hy
          exact List.mem_map.mpr ⟨z, List.mem_of_mem_take hz, ez⟩)
        refine ⟨qa, _, rfl, sumT g.e hqa, rfl, _, _, rfl, _, _, rfl, rfl, ?_⟩
        refine s_augLL (ms := procL q) rfl g (g.evb (ll_is (ll_cat (ll_cat (ll_one (ws := (["to", q.1] : List Str)) (el_lst (ea_cons ev_c (ea_cons (ev_var rfl) ea_nil)) (by simp)))
          (ll_call (ea_cons (ev_var rfl) ea_nil) fun H5 e6 Q' r E' => ⟨w2, q.2, p.names, _, 1, rfl, f2.ex (g.e.trans e6), g3, hp.nm, hdn, by have := ht_okB q.2 1 g3 (by omega); omega, by omega, r⟩) (by simp only [List.length_cons, List.length_nil]; omega))
          (ll_one (ws := (["end"] : List Str)) (el_lst (ea_cons ev_c ea_nil) (by simp))) (by simp only [List.length_append, List.length_cons, List.length_nil]; omega)) rfl))
          (by rw [show procL q = [(["to", q.1] : List Str)] ++ linesB q.2 ++ [(["end"] : List Str)] from rfl]; simp only [List.length_append, List.length_cons, List.length_nil]; omega) fun H5 g5 => ⟨_, _, rfl, ?_⟩
        rw [lines_take hq, ← List.append_assoc]
        exact g5
    · rintro σ' H' ⟨x0, y0, rfl, g⟩
      rw [hpl, List.take_length] at g
      obtain ⟨zs, h1, h2⟩ := g.at_
      have hpr := procs_len p.procs
      have hlp := prog_len hp
      have hdn := hpn
      refine s_ret (v := .str (textOf p)) (ev_join ev_c (el_lcLL (H0 := H) (l := l) (ls := progL p) jn (lb_catV (ls := [(["names"] : List Str) ++ p.names] ++ (p.procs.map procL).flatten) (ms := linesB p.block) (ev_var rfl) h1 h2
        (g.evb (ll_call (ea_cons (ev_w2 (ev_var rfl) (hT _ g.e)) ea_nil) fun H5 e6 Q' r E' => ⟨v3, p.block, p.names, p.procs.map (·.1), 1, rfl, hb.ex (g.e.trans e6), hp.bl, hp.nm, hdn, by have := ht_okB p.block 1 hp.bl (by omega); omega, by omega, r⟩))
        (by simp only [List.length_append, List.length_cons, List.length_nil]; omega)) (by omega) (fun _ => rfl) (fun x H1 => ?_) (fun ws q H1 hm hq => ?_)) ?_) fun H3 e3 => k.go (g.e.trans e3)
      · exact fun H2 _ Q q => q H2 (Ex.refl H2)
      · refine ev_joinV ev_c (ev_var rfl) (.inl hq) ?_
        have := jn_len (sl_prog hp ws hm)
        omega
      · have := text_sum hp
        omega
end
end RS
end
section
set_option Elab.async false
set_option linter.all false
set_option maxRecDepth 100000
set_option maxHeartbeats 4000000
/-! W7: numbers read; errors; sums read. -/
namespace RS
open PySem L2 TL Evl
/-! ### slices of texts -/
theorem S_mk (a : List Nat) : SX.S a = mk a := rfl
theorem sl_to1 (x : Str) : Txt.slice x none (some 1) = mk ((tl x).take 1) := by
  have := SX.slice_to (a := tl x) (i := 1) (by decide)
  rw [S_mk, S_mk, mk_tl'] at this
  exact this
theorem sl_from1 (x : Str) : Txt.slice x (some 1) none = mk ((tl x).drop 1) := by
  have := SX.slice_from (a := tl x) (i := 1) (by decide)
  rw [S_mk, S_mk, mk_tl'] at this
  exact this
theorem ev_slx {σ : L2.St} {H : Hp} {te : TE} {tl' th : TO} {z : Str} {lo hi : Option Int} (h : Ev te σ H (.str z)) (h1 : EvO tl' σ H lo) (h2 : EvO th σ H hi) (hz : z.length ≤ 100000) : Ev (tSl C8.rSlX te tl' th) σ H (.str (Txt.slice z lo hi)) := fun H1 e Q q =>
  h H1 e _ fun H2 e2 => h1 H2 (e.trans e2) _ fun H3 e3 => h2 H3 ((e.trans e2).trans e3) _ fun H4 e4 => ⟨z, rfl, sz_of hz, q H4 ((e2.trans e3).trans e4)⟩
theorem neg_nil {x : Str} (h : tl x = []) : isNeg x = false ∧ figs x = tl x := by
  unfold isNeg figs
  rw [h]
  exact ⟨rfl, rfl⟩
theorem neg_45 {x : Str} {r : List Nat} (h : tl x = 45 :: r) : isNeg x = true ∧ figs x = r := by
  unfold isNeg figs
  rw [h]
  exact ⟨rfl, rfl⟩
theorem neg_no {x : Str} {c : Nat} {r : List Nat} (h : tl x = c :: r) (hc : c ≠ 45) : isNeg x = false ∧ figs x = tl x := by
  unfold isNeg figs
  rw [h]
  constructor
  · split
    · rename_i heq
      cases heq
      exact absurd rfl hc
    · rfl
  · split
    · rename_i heq
      cases heq
      exact absurd rfl hc
    · rfl
theorem isNeg_slice (x : Str) : decide (Txt.slice x none (some 1) = "-") = isNeg x := by
  rw [sl_to1]
  cases h : tl x with
  | nil =>
    rw [(neg_nil h).1]
    exact decide_eq_false (by show mk [] ≠ _; decide +kernel)
  | cons c r =>
    by_cases hc : c = 45
    · subst hc
      rw [(neg_45 h).1]
      exact decide_eq_true (by show mk [45] = _; decide +kernel)
    · rw [(neg_no h hc).1]
      refine decide_eq_false fun z => hc ?_
      have z2 : [c] = [45] := (congrArg tl z).trans (by decide +kernel)
      exact List.head_eq_of_cons_eq z2
theorem figs_slice (x : Str) : mk (figs x) = if isNeg x = true then Txt.slice x (some 1) none else x := by
  rw [sl_from1]
  cases h : tl x with
  | nil =>
    rw [(neg_nil h).1, (neg_nil h).2, if_neg Bool.false_ne_true, mk_tl']
  | cons c r =>
    by_cases hc : c = 45
    · subst hc
      rw [(neg_45 h).1, (neg_45 h).2, if_pos rfl]
      rfl
    · rw [(neg_no h hc).1, (neg_no h hc).2, if_neg Bool.false_ne_true, mk_tl']
theorem figs_mem {x : Str} {c : Nat} (h : c ∈ figs x) : c ∈ tl x := by
  unfold figs at h
  split at h
  · rename_i heq
    rw [heq]
    exact List.mem_cons_of_mem _ h
  · exact h
theorem figs_len (x : Str) : (figs x).length ≤ (tl x).length := by
  unfold figs
  split
  · rename_i heq
    rw [heq, List.length_cons]
    omega
  · exact Nat.le_refl _
theorem figs_text {x : Str} (h1 : figs x ≠ []) (h5 : (figs x).length ≤ 5) (h : ((figs x).all fun c => decide (c ∈ figures)) = true) : intText? x = some (numVal x) ∧ x.length ≤ 6 := by
  have hd : NumText.AllDigits (figs x) := fun c hc => by
    have := mem_figures.mp (of_decide_eq_true (List.all_eq_true.mp h c hc))
    omega
  unfold numVal
  by_cases hn : isNeg x = true
  · have e : ∃ r, tl x = 45 :: r := by
      unfold isNeg at hn
      split at hn
      · rename_i heq
        exact ⟨_, heq⟩
      · cases hn
    obtain ⟨r, e⟩ := e
    have e2 : figs x = r := (neg_45 e).2
    rw [if_pos hn, e2]
    rw [e2] at hd h1 h5
    have hl : x.length = r.length + 1 := by rw [len_tl, e, List.length_cons]
    exact ⟨intText_neg e hd h1 (by omega), by omega⟩
  · have e2 : figs x = tl x := by
      unfold isNeg at hn
      unfold figs
      split
      · rename_i heq
        rw [heq] at hn
        exact absurd rfl hn
      · rfl
    rw [if_neg hn, e2]
    rw [e2] at hd h1 h5
    have hl : x.length = (tl x).length := len_tl x
    exact ⟨intText_digits hd h1 (by omega), by omega⟩
theorem digits_lt0 : ∀ (l : List Nat) (k : Nat), (∀ c ∈ l, 48 ≤ c ∧ c ≤ 57) → l.foldl (fun a c => a * 10 + (c - 48)) k < (k + 1) * 10 ^ l.length
  | [], k, _ => by simp
  | c :: l, k, h => by
    have h2 := h c List.mem_cons_self
    have h1 := digits_lt0 l (k * 10 + (c - 48)) fun d hd => h d (List.mem_cons_of_mem _ hd)
    rw [List.foldl_cons, List.length_cons, Nat.pow_succ]
    have h3 : (k * 10 + (c - 48) + 1) * 10 ^ l.length ≤ ((k + 1) * 10) * 10 ^ l.length := Nat.mul_le_mul_right _ (by omega)
    have h4 : (k + 1) * (10 ^ l.length * 10) = ((k + 1) * 10) * 10 ^ l.length := by
      rw [Nat.mul_comm (10 ^ l.length) 10, Nat.mul_assoc]
    omega
theorem digits_lt (l : List Nat) (h : ∀ c ∈ l, 48 ≤ c ∧ c ≤ 57) : NumText.digitsVal l < 10 ^ l.length := by
  have := digits_lt0 l 0 h
  rw [Nat.zero_add, Nat.one_mul] at this
  exact this
theorem numVal_lt {x : Str} (h5 : (figs x).length ≤ 5) (h : ((figs x).all fun c => decide (c ∈ figures)) = true) : (numVal x).natAbs < 100000 := by
  have h1 := digits_lt (figs x) fun c hc => mem_figures.mp (of_decide_eq_true (List.all_eq_true.mp h c hc))
  have h2 : 10 ^ (figs x).length ≤ 10 ^ 5 := Nat.pow_le_pow_right (by decide) h5
  unfold numVal
  split <;> omega
def rIntS : List V → Hp → VK → Prop := fun xs H Q => ∃ a n, xs = [.str a] ∧ PySem.intText? a = some n ∧ a.length ≤ 640 ∧ Q (.int n) H
theorem ev_intS {σ : L2.St} {H : Hp} {te : TE} {x : Str} {n : Int} (h : Ev te σ H (.str x)) (hn : intText? x = some n) (hl : x.length ≤ 640) : Ev (tCB rIntS (tCons te tNil)) σ H (.int n) := ev_cb (ea_cons h ea_nil) fun H1 e Q q => ⟨x, n, rfl, hn, hl, q H1 (Ex.refl H1)⟩
theorem et_w' {σ : L2.St} {H : Hp} {ta tb : TE} {x y : Str} {b : Bool} (hx : Ev ta σ H (.str x)) (hy : Ev tb σ H (.str y)) (hb : decide (x = y) = b) : EvT (tTest (tOp rEq ta tb)) σ H b := et_test (ev_eqS hx hy hb)
theorem dec_nat {m n : Nat} (h : m = n) : decide ((5 : Int) < (m : Int)) = decide (5 < n) := by
  subst h
  by_cases h : 5 < m
  · rw [decide_eq_true h]
    exact decide_eq_true (by omega)
  · rw [decide_eq_false h]
    exact decide_eq_false (by omega)
def oI : Option Int → V
  | some i => .int i
  | none => .non
def spNumberIn : Sp := fun vs H Q _ => ∃ (x : Str) (lo hi : Int), vs = [.str x, .int lo, .int hi] ∧ x.length ≤ 40000 ∧ asc x ∧ RetV (oI (numIn x lo hi)) H Q
def spDeep (n : Nat) : Sp := fun vs H Q _ => ∃ (v : V) (s : Sm), vs = [v] ∧ Td H (eS s) v ∧ deep s < n ∧ RetV (.int (deep s)) H Q
section
variable {P : Program} {w : World} {K : PySem.W.Frag} {mg : Str → Option Value} {base : Heap} {a : Ads}
theorem c_number_in (T : Txt K mg w a) : CalG CX0 P w K mg base 1 "number_in" spNumberIn [] := by
  obtain ⟨f, fd, D, hm⟩ := T.d_number_in
  refine ⟨f, fd, _, _, D.ok sc_number_in (fun vs H Q E h => ?_) (fun cdv A outer s H vs Q E hr h => ⟨_, PSs.nox ((pss_cons (ps_set (i := 3) sc_number_in.nd rfl (Or.inl rfl) (pe_ifExp (pt_cmpR op_eq (pe_slice C8.sl_txt (pv 0) po_none (po_some pe_int)) pe_str (nomark _)) (pe_slice C8.sl_txt (pv 0) (po_some pe_int) po_none) (pv 0)))
      (pss_cons (ps_if (PW.pt (pw_or (pt_cmpR op_eq (pv 3) pe_str (nomark _)) (pw_or (pt_cmpR op_gt (pe_callB call_len_str (by rfl) T.b_len (by decide +kernel) (pa_cons (pv 3) pa_nil)) pe_int (nomark _)) (pw_or1 (pt_cmpR (op_neM hr.units) (pe_lc (own := [("sign", 4)]) rfl sc_number_in.nd (pi_str (pv 3)) (blkOk_by (N := ["word", "least", "most", "figures", "sign"]) (sc := defScope st_number_in) (by decide +kernel)) (fun _ _ _ _ _ => (pg_name (i := 4) sc_number_in.nd rfl (Or.inl rfl))) (fun _ _ _ _ _ => (pts_one (pt_cmpR op_notIn_sign (pv 4) (C8.pe_gc (by rfl) T.g_FIGURES) (by rfl)))) (fun _ _ _ _ _ => (pv 4))) (pe_lst pa_nil) (nomark _)))))) (pss_one (ps_ret pe_non)) pss_nil)
      (pss_one (ps_ret (pe_ifExp (PW.pt (pw_and (pt_cmpR op_eq (pe_callTy call_str_int (by rfl) T.b_str (by decide +kernel) (pa_cons (pe_callTy call_int_str (by rfl) T.b_int (by decide +kernel) (pa_cons (pv 0) pa_nil)) pa_nil)) (pv 0) (nomark _)) (pw_and1 (pt_chain op_le op_le (pv 1) (pe_callTy call_int_str (by rfl) T.b_int (by decide +kernel) (pa_cons (pv 0) pa_nil)) (pv 2))))) (pe_callTy call_int_str (by rfl) T.b_int (by decide +kernel) (pa_cons (pv 0) pa_nil)) pe_non)))))), ?_⟩), hm, D.kp, D.bindsN (fun _ _ _ _ _ _ us hl => match us, hl with | [_, _, _], _ => rfl), .nil⟩
  · obtain ⟨x, lo, hi, rfl, _⟩ := h
    rfl
  · obtain ⟨x, lo, hi, rfl, hl, hx, k⟩ := h
    have hfl := figs_len x
    have hlt : x.length = (tl x).length := len_tl x
    have hml : (mk (figs x)).length = (figs x).length := len_tl _
    refine q_asg (v := .str (mk (figs x))) (ev_if (b := isNeg x) (et_w (ev_slx (ev_var rfl) eo_none (eo_some ev_c) (by omega)) (isNeg_slice x)) (fun h => ev_is (ev_slx (ev_var rfl) (eo_some ev_c) eo_none (by omega)) (by rw [figs_slice, if_pos h]))
      (fun h => ev_is (ev_var rfl) (by rw [figs_slice, if_neg (by rw [h]; exact Bool.false_ne_true)]))) fun H1 e1 => ?_
    have hsg : ∀ c ∈ tl (mk (figs x)), c < 128 := fun c hc => hx c (figs_mem hc)
    refine q_when (b := ((figs x).isEmpty || (decide (5 < (figs x).length) || !((figs x).all fun c => decide (c ∈ figures)))))
      (et_or (et_w (ev_var rfl) (by
        cases h : figs x with
        | nil => exact decide_eq_true (by decide +kernel)
        | cons c r => exact decide_eq_false fun z => nomatch (show c :: r = [] from (congrArg tl z).trans (by decide +kernel))))
      fun h1 => et_or (et_is (et_test (ev_op (ev_lenStr (z := mk (figs x)) (ev_var rfl) (by omega)) ev_c rv_I0)) (dec_nat hml))
      fun h2 => et_is (et_test (ev_neNil (l := signsOf (mk (figs x)) fun c => !decide (c ∈ figures)) ?_ (asc_signs hsg))) (by rw [signs_empty]; rfl)) (fun h H2 e2 => ?_) (fun h H2 e2 => ?_)
    · rw [← given_signs]
      refine el_lcS _ _ (ev_var rfl) (by show (figs x).length ≤ 40000; omega) (fun x => rfl) (fun i c H2 e2 hc => ?_) (fun i c H2 e2 hc _ => ?_)
      · rw [getD_of hc, ← tl_figures]
        exact et_test (ev_op (ev_var rfl) ev_c rv_niSg)
      · rw [getD_of hc]
        exact ev_var rfl
    · refine s_ret (v := .non) ev_c fun H3 e3 => ?_
      have e : numIn x lo hi = none := by
        unfold numIn
        rw [if_pos]
        simp only [Bool.or_eq_true, decide_eq_true_eq, Bool.not_eq_true'] at h
        rcases h with h | h | h
        · exact .inl h
        · exact .inr (.inl h)
        · exact .inr (.inr h)
      rw [e] at k
      exact k.go ((e1.trans e2).trans e3)
    · simp only [Bool.or_eq_false_iff, Bool.not_eq_false', decide_eq_false_iff_not] at h
      obtain ⟨h1, h2, h3⟩ := h
      have hne : figs x ≠ [] := fun z => by
        rw [z] at h1
        cases h1
      obtain ⟨hi1, hi2⟩ := figs_text hne (by omega) h3
      have hv := numVal_lt (x := x) (by omega) h3
      have key : numIn x lo hi = if numS (numVal x) = x ∧ lo ≤ numVal x ∧ numVal x ≤ hi then some (numVal x) else none := by
        unfold numIn
        rw [if_neg]
        intro z
        rcases z with z | z | z
        · rw [h1] at z
          cases z
        · exact h2 z
        · rw [h3] at z
          cases z
      rw [key] at k
      have hint : ∀ H', Ev (tCB rIntS (tCons (tVar 0) tNil)) [some (.str x), some (.int lo), some (.int hi), some (.str (mk (figs x))), none] H' (.int (numVal x)) := fun H' => ev_intS (ev_var rfl) hi1 (by omega)
      refine s_ret (v := oI (if numS (numVal x) = x ∧ lo ≤ numVal x ∧ numVal x ≤ hi then some (numVal x) else none)) (ev_if (b := (decide (numS (numVal x) = x) && (decide (lo ≤ numVal x) && decide (numVal x ≤ hi))))
        (et_and (et_w' (ev_strI (hint H2) (by omega)) (ev_var rfl) rfl) fun _ => et_test (ev_chain (ev_var rfl) (hint H2) rv_I0 fun _ => ⟨_, ev_var rfl, rv_I0⟩)) (fun h => ?_) (fun h => ?_)) fun H3 e3 => k.go ((e1.trans e2).trans e3)
      · simp only [Bool.and_eq_true, decide_eq_true_eq] at h
        rw [if_pos ⟨h.1, h.2.1, h.2.2⟩]
        exact hint H2
      · rw [if_neg]
        · exact ev_c
        · intro z
          rw [decide_eq_true z.1, decide_eq_true z.2.1, decide_eq_true z.2.2] at h
          cases h
theorem b_deep (T : Txt K mg w a) : ∀ n, CalG CX0 P w K mg base (n + 1) "deep" (spDeep n) []
  | 0 => by
    obtain ⟨f, fd, D, hm⟩ := T.d_deep
    exact ⟨f, fd, ["value"], [], FnOk.never fun vs H Q E h => by
      obtain ⟨_, _, _, _, h, _⟩ := h
      omega, hm, D.kp, D.bindsN (fun _ _ _ _ _ _ us hl => match us, hl with | [_], _ => rfl), .nil⟩
  | n + 1 => by
    have C_deep : CalG CX0 P w K mg base (n + 1) "deep" (spDeep n) [] := b_deep T n
    obtain ⟨f, fd, D, hm⟩ := T.d_deep
    refine ⟨f, fd, _, _, D.ok sc_deep (fun vs H Q E h => ?_) (fun cdv A outer s H vs Q E hr h => ⟨_, PSs.nox ((pss_one (ps_ret (pe_ifExp (pt_val (pe_callB call_isi (by rfl) T.b_isinstance (by decide +kernel) (pa_cons (pv 0) (pa_cons (pe_bltn (by rfl) T.b_tuple (by decide +kernel) (show RelV (.ty "tuple") (.type "tuple") from rfl)) pa_nil)))) (pe_op op_add pe_int (pe_callB (call_max2 rfl) (by rfl) T.b_max (by decide +kernel) (pa_cons (pe_f0 C_deep hr (by omega) (by rfl) (pa_cons (pe_ix ix_tup (pv 0) pe_int (fun _ _ => rfl)) pa_nil)) (pa_cons (pe_f0 C_deep hr (by omega) (by rfl) (pa_cons (pe_ix ix_tup (pv 0) pe_int (fun _ _ => rfl)) pa_nil)) pa_nil)))) pe_int)))), ?_⟩), hm, D.kp, D.bindsN (fun _ _ _ _ _ _ us hl => match us, hl with | [_], _ => rfl), .nil⟩
    · obtain ⟨v, s, rfl, _⟩ := h
      rfl
    · obtain ⟨v, s, rfl, hv, hd, k⟩ := h
      refine s_ret (v := .int (deep s)) ?_ k
      cases s with
      | num i =>
        cases (show v = .int i from hv)
        exact ev_if (b := false) (et_B (ev_isi (ev_var rfl) ev_c (fun _ _ => ty_int) k_int_tuple)) (fun h => nomatch h) fun _ => ev_c
      | nam x =>
        cases (show v = .str x from hv)
        exact ev_if (b := false) (et_B (ev_isi (ev_var rfl) ev_c (fun _ _ => ty_str) k_str_tuple)) (fun h => nomatch h) fun _ => ev_c
      | bin p x y =>
        obtain ⟨ad, xs, rfl, had, v1, r1, rfl, e1, v2, r2, rfl, h2, v3, r3, rfl, h3, e3⟩ := hv
        cases (show r3 = [] from e3)
        have hd5 : 1 + max (deep x) (deep y) < n + 1 := hd
        have hT : SqT K H ad [v1, v2, v3] := sumT (Ex.refl H) had
        refine ev_if (b := true) (et_B (ev_isi (ev_var rfl) ev_c (fun _ e => ty_tup (e _ _ had)) k_tuple_tuple)) (fun _ => ?_) fun h => nomatch h
        refine ev_is (ev_op ev_c (ev_max2 (i := (deep x : Nat)) (j := (deep y : Nat)) (ev_call (ea_cons (ev_w1 (ev_var rfl) hT) ea_nil) fun H4 e4 Q' q E' => ⟨v2, x, rfl, h2.ex e4, by omega, q⟩)
          (ev_call (ea_cons (ev_w2 (ev_var rfl) hT) ea_nil) fun H4 e4 Q' q E' => ⟨v3, y, rfl, h3.ex e4, by omega, q⟩)) rv_I0) ?_
        show V.int (1 + if (deep y : Int) > (deep x : Int) then (deep y : Int) else (deep x : Int)) = V.int ((1 + max (deep x) (deep y) : Nat) : Int)
        congr 1
        split <;> omega
end
end RS
end
section
set_option Elab.async false
set_option linter.all false
set_option maxRecDepth 100000
set_option maxHeartbeats 4000000
/-! W8: errors; the sums that are read. -/
namespace RS
open PySem L2 TL Evl
/-! ### BadLine -/
def blF (l w : Int) : List (Str × V) := [("word", .int w), ("line", .int l)]
/-- the error for a word of a line is let out -/
def RaisBL (C : Addr) (l w : Int) (H : Hp) (E : XK) : Prop := ∀ d H', Ex H H' → H d = none → H' d = some (.xd (blF l w)) → E (.ref C) (some d) H'
theorem RaisBL.mono {C : Addr} {l w : Int} {H H' : Hp} {E : XK} (e : Ex H H') (h : RaisBL C l w H E) : RaisBL C l w H' E := fun d H2 e2 hd h2 => h d H2 (e.trans e2) (fresh_back e hd) h2
structure OexG (P : Program) (w : World) (K : PySem.W.Frag) (mg : Str → Option Value) (base : Heap) (k : Nat) (x : Str) (C : Addr) (sp : Sp) (dvs : List V) : Prop where
  ex : ∃ (f : Addr) (fd : FuncData) (ps : List Str) (ds : List Value), OexC K C ∧ PySem.W.findIn K (.ref C) "__init__" = some (some (.ref f)) ∧ PySem.W.typeIn K (.ref f) = some (.type "function") ∧ FnOk P w K mg base CX0 k f fd ps sp ∧ mg x = some (.ref C) ∧ Binds K fd ps ds ∧ Vals dvs ds
theorem pmk_oexG {X : Cx} {k j : Nat} {x : Str} {C : Addr} {sp : Sp} {dvs : List V} {p pos : Pos} {e : Expr} {es : List Expr} {t : TA} (c : OexG X.prog X.w X.K X.mg X.base k x C sp dvs) (hr : Room j X.A) (hk : k + 1 ≤ j) (hg : Gl X x) (ha : PA X (e :: es) t)
    (hdb : (x == ("__debug__" : Str)) = false := by decide) (he : starEach (e :: es) X.env = (false, eval e X.env) :: starEach es X.env := by rfl) (hpl : (backTo pos (starEach es X.env)).any (·.1) = false := by rfl) :
    PMk X (.Call (.Name x p) (e :: es) [] pos) (tMkO C sp dvs t) := by
  obtain ⟨f, fd, ps, ds, T, h1, h2, F, hm, b, d⟩ := c.ex
  exact pmk_oex T h1 h2 F (hr.mono hk) b d pass0 hg hm ha hdb he hpl
def spBLI (C : Addr) : Sp := fun vs H Q _ => ∃ (a : Addr) (l w : Int), vs = [.ref a, .int l, .int w] ∧ H a = some (exo a C none) ∧ ∀ dx, H dx = none → dx ≠ a →
  Q .non (upd (upd (upd H dx (exd dx [("line", .int l)])) a (exo a C (some dx))) dx (exd dx (blF l w)))
section
variable {P : Program} {w : World} {K : PySem.W.Frag} {mg : Str → Option Value} {base : Heap} {a : Ads}
theorem c_BadLine (T : Txt K mg w a) : OexG P w K mg base 1 "BadLine" a.cBL (spBLI a.cBL) [] := by
  obtain ⟨fI, fd, D, h1, h2⟩ := T.i_BadLine
  obtain ⟨u, hm, hu⟩ := T.c_BadLine
  obtain rfl : u = Value.ref a.cBL := hu
  refine ⟨fI, fd, _, [], T.x_BadLine, h1, h2, D.ok sc_BadLine___init__ (fun vs H Q E h => ?_) (fun cdv A outer s H vs Q E hr h => ⟨_, PSs.nox (pss_cons (ps_ost (pv 0) (pv 1)) (pss_one (ps_ost (pv 0) (pv 2)))), ?_⟩), hm, D.bindsN (fun _ _ _ _ _ _ us hl => match us, hl with | [_, _, _], _ => rfl), .nil⟩
  · obtain ⟨a, l, w, rfl, _⟩ := h
    rfl
  · obtain ⟨e, l, w, rfl, he, k⟩ := h
    refine ⟨_, rfl, _, rfl, e, a.cBL, rfl, T.x_BadLine, T.f_BadLine_line, .inl ⟨he, fun dx hdx hne => ?_⟩⟩
    refine ⟨_, rfl, _, rfl, e, a.cBL, rfl, T.x_BadLine, T.f_BadLine_word, .inr ⟨dx, [("line", .int l)], upd_same, ?_, by show 1 ≤ 900; decide, ?_⟩⟩
    · rw [upd_ne hne, upd_same]
    · exact k dx hdx hne
end
/-- raise BadLine(l, w) -/
theorem s_raiseBL {σ : L2.St} {H : Hp} {ta : TA} {C : Addr} {l w : Int} {E : XK} (h : EvA ta σ H [.int l, .int w]) (k : RaisBL C l w H E) : tMkO C (spBLI C) [] ta σ H fun cls d H' => E cls d H' :=
  h H (Ex.refl H) _ fun H1 e => ⟨by show 2 ≤ 1000; decide, fun x hx => ⟨x, l, w, rfl, upd_same, fun dx hdx hne => by
    rw [upd_ne hne] at hdx
    refine ⟨rfl, dx, blF l w, ?_, upd_same, hdx, ?_⟩
    · rw [upd_ne (Ne.symm hne), upd_same]
    · refine k dx _ (fun b o hb => ?_) (fresh_back e hdx) upd_same
      have hb1 := e b o hb
      have n1 : b ≠ dx := ne_of_none hb1 hdx
      have n2 : b ≠ x := ne_of_none hb1 hx
      rw [upd_ne n1, del_ne n2, upd_ne n1, upd_ne n2, upd_ne n1, upd_ne n2]
      exact hb1⟩⟩
/-! ### fields, methods -/
section
variable {K : PySem.W.Frag} {σ : L2.St} {H : Hp} {to te : TE} {tA : TA} {D : Ends} {tz : TS}
theorem ev_fld {o C dx : Addr} {fs : List (Str × V)} {f : Str} {v : V} (h : Ev te σ H (.ref o)) (ho : H o = some (.ins C dx fs)) (hc : Cls K C) (hn : NoAttr K C f) (hl : fs.lookup f = some v) : Ev (tFld K te f) σ H v := fun H1 e Q q =>
  h H1 e _ fun H2 e2 => ⟨o, C, dx, fs, v, rfl, e2 _ _ (e _ _ ho), hc, hn, hl, q H2 e2⟩
/-- o.m(..): on to its promise -/
theorem a_meth {o C dx : Addr} {m : Str} {fs : List (Str × V)} {vs dvs : List V} {sp : Sp} {E : XK} {Q : VK} (h : Ev to σ H (.ref o)) (ho : H o = some (.ins C dx fs)) (hl : fs.lookup m = none) (ha : EvA tA σ H vs) (k : ∀ H1, Ex H H1 → sp (.ref o :: (vs ++ dvs)) H1 Q E) : tMeth C m sp dvs E to tA σ H Q :=
  h H (Ex.refl H) _ fun H1 e1 => ⟨o, dx, fs, rfl, e1 _ _ ho, hl, ha H1 e1 _ fun H2 e2 => k H2 (e1.trans e2)⟩
end
/-! ### suffixes -/
theorem drop_sfx {α : Type} {b ws : List α} (h : b <:+ ws) : ws.drop (ws.length - b.length) = b := by
  obtain ⟨p, rfl⟩ := h
  rw [List.length_append, Nat.add_sub_cancel, List.drop_left]
theorem sfx_get {α : Type} {w : α} {r ws : List α} (h : w :: r <:+ ws) : ws[ws.length - (r.length + 1)]? = some w := by
  obtain ⟨p, rfl⟩ := h
  rw [List.length_append, List.length_cons, Nat.add_sub_cancel, List.getElem?_append_right (Nat.le_refl _), Nat.sub_self]
  rfl
theorem sfx_tail {α : Type} {w : α} {r ws : List α} (h : w :: r <:+ ws) : r <:+ ws := List.IsSuffix.trans (List.suffix_cons w r) h
/-- what is left is an end of what was there, and the sum is not too deep -/
def SfxOne (one : List Str → RE) : Prop := ∀ l s r, one l = .ok (s, r) → r <:+ l ∧ r.length < l.length ∧ deep s ≤ 6
theorem more_sfx {one : List Str → RE} (h : SfxOne one) : ∀ k s b s' r', deep s ≤ 6 → more one k s b = .ok (s', r') → r' <:+ b ∧ deep s' ≤ 6
  | 0, s, b, s', r', hd, e => by
    rw [more] at e
    cases e
    exact ⟨List.suffix_refl _, hd⟩
  | k + 1, s, [], s', r', hd, e => by
    rw [more] at e
    cases e
    exact ⟨List.suffix_refl _, hd⟩
  | k + 1, s, w :: r, s', r', hd, e => by
    rw [more] at e
    split at e
    · cases e
      exact ⟨List.suffix_refl _, hd⟩
    · split at e
      · cases e
      · rename_i p _ o a ho
        obtain ⟨h1, h2, h3⟩ := h r o a ho
        split at e
        · cases e
        · rename_i hn
          obtain ⟨g1, g2⟩ := more_sfx h k _ a s' r' (by omega) e
          exact ⟨List.IsSuffix.trans g1 (List.IsSuffix.trans h1 (List.suffix_cons w r)), g2⟩
theorem whole_sfx {one : List Str → RE} (h : SfxOne one) {l : List Str} {s : Sm} {r : List Str} (e : whole one l = .ok (s, r)) : r <:+ l ∧ r.length < l.length ∧ deep s ≤ 6 := by
  unfold whole at e
  split at e
  · cases e
  · rename_i s0 b0 h0
    obtain ⟨h1, h2, h3⟩ := h l s0 b0 h0
    obtain ⟨g1, g2⟩ := more_sfx h _ _ _ _ _ h3 e
    exact ⟨List.IsSuffix.trans g1 h1, Nat.lt_of_le_of_lt g1.length_le h2, g2⟩
theorem atom_sfx {names : List Str} {w : Str} {r r' : List Str} {s : Sm} (e : atom names w r = .ok (s, r')) : r' = r ∧ deep s = 0 := by
  unfold atom at e
  split at e
  · cases e
    exact ⟨rfl, rfl⟩
  · split at e
    · cases e
      exact ⟨rfl, rfl⟩
    · cases e
theorem one_sfx (names : List Str) : ∀ n, SfxOne (oneN names n)
  | 0, [], s, r, e => by
    rw [oneN] at e
    cases e
  | 0, w :: l, s, r, e => by
    rw [oneN] at e
    split at e
    · cases e
    · obtain ⟨rfl, h⟩ := atom_sfx e
      exact ⟨List.suffix_cons w _, Nat.lt_succ_self _, by omega⟩
  | n + 1, [], s, r, e => by
    rw [oneN] at e
    cases e
  | n + 1, w :: l, s, r, e => by
    rw [oneN] at e
    split at e
    · unfold closing at e
      split at e
      · cases e
      · rename_i s0 b0 h0
        obtain ⟨h1, h2, h3⟩ := whole_sfx (one_sfx names n) h0
        split at e
        · split at e
          · cases e
          · split at e
            · cases e
              rename_i w2 _ _
              refine ⟨List.IsSuffix.trans (List.IsSuffix.trans (List.suffix_cons w2 _) h1) (List.suffix_cons w l), ?_, h3⟩
              rw [List.length_cons] at h2 ⊢
              omega
            · cases e
        · cases e
    · obtain ⟨rfl, h⟩ := atom_sfx e
      exact ⟨List.suffix_cons w _, Nat.lt_succ_self _, by omega⟩
/-! ### the promises -/
def okWs (ws : List Str) : Prop := ws.length ≤ 50000 ∧ ∀ w ∈ ws, asc w ∧ w.length ≤ 40000
structure SumsAt (C : Addr) (H : Hp) (o na wa : Addr) (names ws : List Str) (line : Int) : Prop where
  at_ : ∃ dx, H o = some (.ins C dx ([("names", .ref na), ("words", .ref wa), ("line", .int line)] : List (Str × V)))
  nm : H na = some (.tup (names.map V.str))
  wd : H wa = some (.lst (ws.map V.str))
theorem SumsAt.ex {C : Addr} {H H' : Hp} {o na wa : Addr} {names ws : List Str} {line : Int} (e : Ex H H') (h : SumsAt C H o na wa names ws line) : SumsAt C H' o na wa names ws line := by
  obtain ⟨dx, h1⟩ := h.at_
  exact ⟨⟨dx, e _ _ h1⟩, e _ _ h.nm, e _ _ h.wd⟩
/-- a sum and the place behind it, or an error -/
def ResS (CL : Addr) (r : RE) (n : Nat) (line : Int) (H : Hp) (Q : VK) (E : XK) : Prop := match r with
  | .ok (s, rest) => ∀ p v H', Ex H H' → H' p = some (.tup [v, .int ((n - rest.length : Nat) : Int)]) → Td H' (eS s) v → Q (.ref p) H'
  | .error e => RaisBL CL line ((n - e + 1 : Nat) : Int) H E
theorem ResS.ok {CL : Addr} {r : RE} {n : Nat} {line : Int} {H : Hp} {Q : VK} {E : XK} {s : Sm} {rest : List Str} (h : ResS CL r n line H Q E) (e : r = .ok (s, rest)) : ∀ p v H', Ex H H' → H' p = some (.tup [v, .int ((n - rest.length : Nat) : Int)]) → Td H' (eS s) v → Q (.ref p) H' := by
  subst e
  exact h
theorem ResS.err {CL : Addr} {r : RE} {n : Nat} {line : Int} {H : Hp} {Q : VK} {E : XK} {x : Nat} (h : ResS CL r n line H Q E) (e : r = .error x) : RaisBL CL line ((n - x + 1 : Nat) : Int) H E := by
  subst e
  exact h
theorem ResS.mk {CL : Addr} {r : RE} {n : Nat} {line : Int} {H : Hp} {Q : VK} {E : XK} (h1 : ∀ s rest, r = .ok (s, rest) → ∀ p v H', Ex H H' → H' p = some (.tup [v, .int ((n - rest.length : Nat) : Int)]) → Td H' (eS s) v → Q (.ref p) H') (h2 : ∀ x, r = .error x → RaisBL CL line ((n - x + 1 : Nat) : Int) H E) : ResS CL r n line H Q E := by
  match r, h1, h2 with
  | .ok (s, rest), h1, h2 => exact h1 s rest rfl
  | .error x, h1, h2 => exact h2 x rfl
def spSFail (C CL : Addr) : Sp := fun vs H Q E => ∃ (o na wa : Addr) (names ws : List Str) (line i : Int), vs = [.ref o, .int i] ∧ SumsAt C H o na wa names ws line ∧ RaisBL CL line (i + 1) H E
def spOne (C CL : Addr) (m : Nat) : Sp := fun vs H Q E => ∃ (o na wa : Addr) (names ws : List Str) (line : Int) (i : Nat), vs = [.ref o, .int i, .int (6 - (m : Int))] ∧ m ≤ 6 ∧ SumsAt C H o na wa names ws line ∧ okWs ws ∧ i ≤ ws.length ∧ ResS CL (oneN names m (ws.drop i)) ws.length line H Q E
def spWhole (C CL : Addr) (m : Nat) : Sp := fun vs H Q E => ∃ (o na wa : Addr) (names ws : List Str) (line : Int) (i : Nat), vs = [.ref o, .int i, .int (6 - (m : Int))] ∧ m ≤ 6 ∧ SumsAt C H o na wa names ws line ∧ okWs ws ∧ i ≤ ws.length ∧ ResS CL (whole (oneN names m) (ws.drop i)) ws.length line H Q E
def spSumsI (C : Addr) : Sp := fun vs H Q _ => ∃ (o dx : Addr) (n w l : V), vs = [.ref o, n, w, l] ∧ H o = some (.ins C dx []) ∧ ∀ H', (∀ b, b ≠ o → H' b = H b) → H' o = some (.ins C dx ([("names", n), ("words", w), ("line", l)] : List (Str × V))) → Q .non H'
section
variable {P : Program} {w : World} {K : PySem.W.Frag} {mg : Str → Option Value} {base : Heap} {a : Ads}
theorem s_fld {K : PySem.W.Frag} {σ : L2.St} {H : Hp} {to te : TE} {D : Ends} {o C dx : Addr} {fs : List (Str × V)} {f : Str} {v : V} (h : Ev te σ H v) (hO : Ev to σ H (.ref o)) (ho : H o = some (.ins C dx fs)) (hc : Cls K C) (hn : NoAttr K C f) (hl : fs.length < 1000)
    (k : ∀ H1, Ex H H1 → D.nx σ (upd H1 o (.ins C dx (putF f v fs)))) : sFld K to te f D σ H :=
  h H (Ex.refl H) _ fun H1 e1 => hO H1 e1 _ fun H2 e2 => ⟨o, C, dx, fs, rfl, e2 _ _ (e1 _ _ ho), hc, hn, hl, k H2 (e1.trans e2)⟩
theorem q_fld {K : PySem.W.Frag} {σ : L2.St} {H : Hp} {to te : TE} {tz : TS} {D : Ends} {o C dx : Addr} {fs : List (Str × V)} {f : Str} {v : V} (h : Ev te σ H v) (hO : Ev to σ H (.ref o)) (ho : H o = some (.ins C dx fs)) (hc : Cls K C) (hn : NoAttr K C f) (hl : fs.length < 1000)
    (k : ∀ H1, Ex H H1 → tz D σ (upd H1 o (.ins C dx (putF f v fs)))) : tSeq (sFld K to te f) tz D σ H := s_fld (D := { D with nx := tz D }) h hO ho hc hn hl k
theorem c_Sums (T : Txt K mg w a) : MakG CX0 P w K mg base 1 "Sums" a.cS (spSumsI a.cS) [] := by
  obtain ⟨f, fd, D, hm⟩ := T.m_Sums___init__
  refine ⟨f, fd, _, [], ⟨T.mk_Sums, hm.at_, hm.fn, T.kp_Sums⟩, D.ok sc_Sums___init__ (fun vs H Q E h => ?_) (fun cdv A outer s H vs Q E hr h => ⟨_, PSs.nox ((pss_cons (ps_fld (pv 0) (pv 1) rfl)
      (pss_cons (ps_fld (pv 0) (pv 2) rfl)
      (pss_one (ps_fld (pv 0) (pv 3) rfl))))), ?_⟩), T.c_Sums, D.bindsN (fun _ _ _ _ _ _ us hl => match us, hl with | [_, _, _, _], _ => rfl), .nil⟩
  · obtain ⟨o, dx, n, w, l, rfl, _⟩ := h
    rfl
  · obtain ⟨o, dx, n, w, l, rfl, ho, k⟩ := h
    refine ⟨_, rfl, _, rfl, o, a.cS, dx, [], rfl, ho, T.cl_Sums, T.n_Sums_names, by decide, ?_⟩
    refine ⟨_, rfl, _, rfl, o, a.cS, dx, _, rfl, upd_same, T.cl_Sums, T.n_Sums_words, by show 1 < 1000; decide, ?_⟩
    refine ⟨_, rfl, _, rfl, o, a.cS, dx, _, rfl, upd_same, T.cl_Sums, T.n_Sums_line, by show 2 < 1000; decide, ?_⟩
    exact k _ (fun b hb => by rw [upd_ne hb, upd_ne hb, upd_ne hb]) upd_same
theorem c_Sums_fail (T : Txt K mg w a) : MetG (CXX P w) P w K mg base 3 a.cS "fail" (spSFail a.cS a.cBL) [] := by
  have X_BadLine : OexG P w K mg base 1 "BadLine" a.cBL (spBLI a.cBL) [] := c_BadLine T
  obtain ⟨f, fd, D, hm⟩ := T.m_Sums_fail
  refine ⟨f, fd, _, [], T.cl_Sums, hm, D.ok sc_Sums_fail (fun vs H Q E h => ?_) (fun cdv A outer s H vs Q E hr h => ⟨_, (pss_one (ps_raise rfl (takes_of rfl rfl rfl rfl) (pmk_oexG X_BadLine hr (by omega) (by rfl) (pa_cons (pe_fld (pv 0) rfl) (pa_cons (pe_op op_add (pv 1) pe_int) pa_nil))))), ?_⟩), D.bindsN (fun _ _ _ _ _ _ us hl => match us, hl with | [_, _], _ => rfl), .nil⟩
  · obtain ⟨o, na, wa, names, ws, line, i, rfl, _⟩ := h
    rfl
  · obtain ⟨o, na, wa, names, ws, line, i, rfl, hS, k⟩ := h
    obtain ⟨dx, ho⟩ := hS.at_
    exact s_raiseBL (ea_cons (ev_fld (ev_var rfl) ho T.cl_Sums T.n_Sums_line rfl) (ea_cons (ev_op (ev_var rfl) ev_c rv_I0) ea_nil)) k
end
end RS
end
section
set_option Elab.async false
set_option linter.all false
set_option maxRecDepth 100000
set_option maxHeartbeats 4000000
/-! W9: Sums.one, Sums.whole. -/
namespace RS
open PySem L2 TL Evl
section
variable {K : PySem.W.Frag} {σ : L2.St} {H : Hp} {to te ta tb : TE} {tA : TA} {D : Ends} {tz tu : TS} {t : TT}
/-- if c: fail(..) -/
theorem q_fail {b : Bool} (h : EvT t σ H b) (h1 : b = true → ∀ H1, Ex H H1 → tu { D with nx := tz D } σ H1) (h2 : b = false → ∀ H1, Ex H H1 → tz D σ H1) : tSeq (tIfS t tu tNext) tz D σ H := q_when h h1 h2
/-- a statement that lets an error out -/
theorem s_out {D : Ends} (h : ∀ Q : VK, te σ H Q) : tDrop te D σ H := h _
/-- a new tuple from a call, taken apart -/
theorem g_two {i j : Nat} {p : Addr} {x y : V} {Q : L2.St → Hp → Prop} (hp : H p = some (.tup [x, y])) (k : Q ((σ.set i (some x)).set j (some y)) H) : gTup K 2 (gCons (gName i) (gCons (gName j) gNil)) (.ref p) σ H Q := ⟨p, _, rfl, st_of hp, rfl, _, _, rfl, _, _, rfl, rfl, k⟩
theorem ev_isN {v : V} {b : Bool} (h : Ev te σ H v) (hb : decide (v = .non) = b) : Ev (tOp (fun x y H Q => y = .non ∧ Q (.bl (decide (x = .non))) H) te (tC .non)) σ H (.bl b) := fun H1 e Q q => h H1 e _ fun H2 e2 => ⟨rfl, by rw [hb]; exact q H2 e2⟩
end
theorem seq_len {K : PySem.W.Frag} {C : Addr} {H : Hp} {o na wa : Addr} {names ws : List Str} {line : Int} {σ : L2.St} {te : TE} (hc : Cls K C) (hn : NoAttr K C "words") (hS : SumsAt C H o na wa names ws line) (h : Ev te σ H (.ref o)) :
    Ev (tCB (rLenS K) (tCons (tFld K te "words") tNil)) σ H (.int (ws.length : Nat)) := by
  obtain ⟨dx, ho⟩ := hS.at_
  have := ev_len (K := K) (ev_fld h ho hc hn rfl) (sq_of hS.wd)
  rw [List.length_map] at this
  exact this
theorem word_at {K : PySem.W.Frag} {C : Addr} {H : Hp} {o na wa : Addr} {names ws : List Str} {line : Int} {σ : L2.St} {te ti : TE} {i : Nat} {x : Str} (hc : Cls K C) (hn : NoAttr K C "words") (hS : SumsAt C H o na wa names ws line) (h : Ev te σ H (.ref o)) (hi : Ev ti σ H (.int i)) (hx : ws[i]? = some x) :
    Ev (tOp (rIxL K) (tFld K te "words") ti) σ H (.str x) := by
  obtain ⟨dx, ho⟩ := hS.at_
  refine ev_op (ev_fld h ho hc hn rfl) hi (rv_ixL (sq_of hS.wd) (atI_nat ?_))
  rw [List.getElem?_map, hx]
  rfl
theorem rv_signs {K : PySem.W.Frag} {mg : Str → Option Value} {w : World} {a : Ads} (T : Txt K mg w a) (z : Str) {H : Hp} : RV (fun x y H Q => ∃ (z : Str) (r : Option Value), x = .str z ∧ y = .ref a.signs ∧ PySem.W.nsIn K a.signs z = some r ∧ Q (.bl r.isSome) H) (.str z) (.ref a.signs) H (.bl (sgOf z).isSome) := fun H1 _ Q q => by
  obtain ⟨r, h1, h2⟩ := T.signsAt z
  refine ⟨z, r, rfl, rfl, h1, ?_⟩
  cases h : sgOf z with
  | none =>
    rw [h] at h2 q
    subst h2
    exact q H1 (Ex.refl H1)
  | some p =>
    rw [h] at h2 q
    obtain ⟨u, rfl, _⟩ := h2
    exact q H1 (Ex.refl H1)
theorem rv_signAt {K : PySem.W.Frag} {mg : Str → Option Value} {w : World} {a : Ads} (T : Txt K mg w a) {z : Str} {p : Bool} {H : Hp} (hz : sgOf z = some p) : RV (rIxD K w) (.ref a.signs) (.str z) H (.str (sgn p)) := fun H1 _ Q q => by
  obtain ⟨r, h1, h2⟩ := T.signsAt z
  rw [hz] at h2
  obtain ⟨u, rfl, hu⟩ := h2
  exact ⟨a.signs, z, _, rfl, rfl, ⟨_, _, u, T.signs.at_, T.signs.lit, h1, hu⟩, q H1 (Ex.refl H1)⟩
section
variable {P : Program} {w : World} {K : PySem.W.Frag} {mg : Str → Option Value} {base : Heap} {a : Ads}
theorem td_isTup {H : Hp} {s : Sm} {v : V} {te ty : TE} {σ : L2.St} (h : Td H (eS s) v) (hv : Ev te σ H v) (hy : Ev ty σ H (.ty "tuple")) : Ev (tCB (rIsi K) (tCons te (tCons ty tNil))) σ H (.bl s.isBin) := by
  cases s with
  | num i =>
    cases (show v = .int i from h)
    exact ev_isi hv hy (fun _ _ => ty_int) k_int_tuple
  | nam x =>
    cases (show v = .str x from h)
    exact ev_isi hv hy (fun _ _ => ty_str) k_str_tuple
  | bin p x y =>
    obtain ⟨ad, xs, rfl, had, _⟩ := h
    exact ev_isi hv hy (fun _ e => ty_tup (e _ _ had)) k_tuple_tuple
theorem lvl6 (m : Nat) (h : m ≤ 6) : (6 : Int) - (m : Int) = ((6 - m : Nat) : Int) := by omega
theorem b_whole (T : Txt K mg w a) (m : Nat) (C_one : MetG (CXX P w) P w K mg base (12 + 2 * m) a.cS "one" (spOne a.cS a.cBL m) []) : MetG (CXX P w) P w K mg base (13 + 2 * m) a.cS "whole" (spWhole a.cS a.cBL m) [] := by
  have M_Sums_one := C_one
  have M_Sums_fail : MetG (CXX P w) P w K mg base 3 a.cS "fail" (spSFail a.cS a.cBL) [] := c_Sums_fail T
  have C_terms_in : CalG CX0 P w K mg base 9 "terms_in" (spTerms 8) [] := b_terms T 8
  have C_deep : CalG CX0 P w K mg base 9 "deep" (spDeep 8) [] := b_deep T 8
  obtain ⟨f, fd, D, hm⟩ := T.m_Sums_whole
  refine ⟨f, fd, ["self", "at", "within"], [], T.cl_Sums, hm, (?_ : FnOk P w K mg base (CXX P w) (12 + 2 * m + 1) f fd ["self", "at", "within"] (spWhole a.cS a.cBL m)).mono (by omega), D.bindsN (fun _ _ _ _ _ _ us hl => match us, hl with | [_, _, _], _ => rfl), .nil⟩
  refine D.ok sc_Sums_whole (fun vs H Q E h => ?_) (fun cdv A outer s H vs Q E hr h => ⟨_, (pss_cons (ps_asg (pe_mX M_Sums_one hr (by omega) (passes_call (takes_of rfl rfl rfl rfl) (fun _ _ _ _ h => h)) (pv 0) (pa_cons (pv 1) (pa_cons (pv 2) pa_nil))) (pg_tup (by rfl) (pgs_cons (pg_name (i := 3) sc_Sums_whole.nd rfl (Or.inl rfl)) (pgs_cons (pg_name (i := 4) sc_Sums_whole.nd rfl (Or.inl rfl)) pgs_nil))))
      (pss_cons (ps_while (passes_of rfl) (PW.pt (pw_and (pt_cmpR op_lt (pv 4) (pe_callB call_len_seq (by rfl) T.b_len (by decide +kernel) (pa_cons (pe_fld (pv 0) rfl) pa_nil)) (nomark _)) (pw_and1 (pt_cmpR (op_in_kd T.signs) (pe_ix ix_list (pe_fld (pv 0) rfl) (pv 4) (fun _ _ => rfl)) (C8.pe_gc (by rfl) T.g_SIGNS) (by rfl))))) (pss_cons (ps_asg (pe_mX M_Sums_one hr (by omega) (passes_call (takes_of rfl rfl rfl rfl) (fun _ _ _ _ h => h)) (pv 0) (pa_cons (pe_op op_add (pv 4) pe_int) (pa_cons (pv 2) pa_nil))) (pg_tup (by rfl) (pgs_cons (pg_name (i := 5) sc_Sums_whole.nd rfl (Or.inl rfl)) (pgs_cons (pg_name (i := 6) sc_Sums_whole.nd rfl (Or.inl rfl)) pgs_nil))))
      (pss_cons (ps_set (i := 3) sc_Sums_whole.nd rfl (Or.inl rfl) (pe_tup (pa_cons (pe_ix ix_kdict (C8.pe_gc (by rfl) T.g_SIGNS) (pe_ix ix_list (pe_fld (pv 0) rfl) (pv 4) (fun _ _ => rfl)) (fun _ _ => rfl)) (pa_cons (pv 3) (pa_cons (pv 5) pa_nil)))))
      (pss_cons (ps_if (PW.pt (pw_or (pt_cmpR op_gt (pe_f0 C_terms_in hr (by omega) (by rfl) (pa_cons (pv 3) pa_nil)) (C8.pe_gc (by rfl) T.g_MOST_TERMS) (nomark _)) (pw_or1 (pt_cmpR op_gt (pe_f0 C_deep hr (by omega) (by rfl) (pa_cons (pv 3) pa_nil)) (C8.pe_gc (by rfl) T.g_MOST_DEPTH) (nomark _))))) (pss_one (ps_expr (pe_mX M_Sums_fail hr (by omega) (passes_call (takes_of rfl rfl rfl rfl) (fun _ _ _ _ h => h)) (pv 0) (pa_cons (pv 4) pa_nil)))) pss_nil)
      (pss_one (ps_set (i := 4) sc_Sums_whole.nd rfl (Or.inl rfl) (pv 6)))))))
      (pss_one (ps_ret (pe_tup (pa_cons (pv 3) (pa_cons (pv 4) pa_nil))))))), ?_⟩)
  · obtain ⟨o, na, wa, names, ws, line, i, rfl, _⟩ := h
    rfl
  · obtain ⟨o, na, wa, names, ws, line, i, rfl, hm6, hS, hw, hi, k⟩ := h
    obtain ⟨dx, ho⟩ := hS.at_
    have hone := one_sfx names m
    refine a_meth (ev_var rfl) ho rfl (ea_cons (ev_var rfl) (ea_cons (ev_var rfl) ea_nil)) fun H1 e1 => ⟨o, na, wa, names, ws, line, i, rfl, hm6, hS.ex e1, hw, hi, ?_⟩
    refine .mk (fun s rest he p v H2 e2' hp hv => ?_) fun x he => ?_
    · have e2 := e1.trans e2'
      obtain ⟨g1, g2, g3⟩ := hone _ _ _ he
      have g1' : rest <:+ ws := List.IsSuffix.trans g1 (List.drop_suffix i ws)
      have hwh : whole (oneN names m) (ws.drop i) = more (oneN names m) rest.length s rest := by
        unfold whole
        rw [he]
      refine g_two hp ?_
      refine q_while (fun j σ' H' => ∃ (s : Sm) (b : List Str) (kk : Nat) (v : V) (x y : Option V), σ' = [some (.ref o), some (.int i), some (.int (6 - (m : Int))), some v, some (.int ((ws.length - b.length : Nat) : Int)), x, y] ∧ Ex H H' ∧ Td H' (eS s) v ∧ deep s ≤ 6 ∧ b <:+ ws ∧ b.length ≤ kk ∧
        whole (oneN names m) (ws.drop i) = more (oneN names m) kk s b ∧ j = b.length) rest.length ⟨s, rest, rest.length, v, none, none, rfl, e2, hv, g3, g1', Nat.le_refl _, hwh, rfl⟩ ?_
      rintro j σ' H' ⟨s, b, kk, v, x0, y0, rfl, e, hv, hd, hb, hk, hmo, rfl⟩
      have hSe := hS.ex e
      have hfin : ∀ H3, Ex H' H3 → whole (oneN names m) (ws.drop i) = .ok (s, b) → ∀ p, H3 p = some (.tup [v, .int ((ws.length - b.length : Nat) : Int)]) → Q (.ref p) H3 := fun H3 e3 hok p hp => k.ok hok p v H3 (e.trans e3) hp (hv.ex e3)
      cases b with
      | nil =>
        have hok : whole (oneN names m) (ws.drop i) = .ok (s, []) := by
          rw [hmo]
          cases kk <;> rw [more]
        refine ⟨false, et_and (a := false) (b := false) (et_is (et_test (ev_op (ev_var rfl) (seq_len T.cl_Sums T.n_Sums_words hSe (ev_var rfl)) rv_I0)) (decide_eq_false (by rw [List.length_nil]; omega))) (fun h => nomatch h), (fun h => nomatch h), fun _ H3 e3 => ?_⟩
        exact s_retU (eu_tup (ea_cons (ev_var rfl) (ea_cons (ev_var rfl) ea_nil)) (by simp)) fun p H4 hp e4 h4 => hfin H4 (e3.trans e4) hok p h4
      | cons w r =>
        obtain ⟨kk', rfl⟩ : ∃ kk', kk = kk' + 1 := by
          rw [List.length_cons] at hk
          exact ⟨kk - 1, by omega⟩
        have hlen := hb.length_le
        rw [List.length_cons] at hlen hk
        have hat := sfx_get hb
        have hbr := sfx_tail hb
        have hdr := drop_sfx hbr
        refine ⟨(sgOf w).isSome, et_is (et_and (a := true) (b := (sgOf w).isSome) (et_is (et_test (ev_op (ev_var rfl) (seq_len T.cl_Sums T.n_Sums_words hSe (ev_var rfl)) rv_I0)) (decide_eq_true (by rw [List.length_cons]; omega))) (fun _ => et_test (ev_op (word_at T.cl_Sums T.n_Sums_words hSe (ev_var rfl) (ev_var rfl) hat) ev_c (rv_signs T w)))) (by rw [Bool.true_and]), fun hs H3 e3' => ?_, fun hs H3 e3 => ?_⟩
        · obtain ⟨p, hp⟩ := Option.isSome_iff_exists.mp hs
          have e3 := e.trans e3'
          refine ⟨fun σ2 H2 => ∃ m', m' < (w :: r).length ∧ ∃ (s : Sm) (b : List Str) (kk : Nat) (v : V) (x y : Option V), σ2 = [some (.ref o), some (.int i), some (.int (6 - (m : Int))), some v, some (.int ((ws.length - b.length : Nat) : Int)), x, y] ∧ Ex H H2 ∧ Td H2 (eS s) v ∧ deep s ≤ 6 ∧ b <:+ ws ∧ b.length ≤ kk ∧
            whole (oneN names m) (ws.drop i) = more (oneN names m) kk s b ∧ m' = b.length, fun σ2 H2 h => h, ?_⟩
          rw [more, hp] at hmo
          refine a_meth (ev_var rfl) (e3 _ _ ho) rfl (ea_cons (ev_op (ev_var rfl) ev_c rv_I0) (ea_cons (ev_var rfl) ea_nil)) fun H4 e4' => ⟨o, na, wa, names, ws, line, ws.length - r.length, ?_, hm6, hS.ex (e3.trans e4'), hw, by omega, ?_⟩
          · show [V.ref o, V.int (((ws.length - (w :: r).length : Nat) : Int) + 1), _] = _
            have : ((ws.length - (w :: r).length : Nat) : Int) + 1 = ((ws.length - r.length : Nat) : Int) := by rw [List.length_cons]; omega
            rw [this]
          rw [hdr]
          refine .mk (fun s2 r2 he2 q v2 H5 e5' hq hv2 => ?_) fun x he2 => ?_
          · have e5 := (e3.trans e4').trans e5'
            rw [he2] at hmo
            obtain ⟨f1, f2, f3⟩ := hone _ _ _ he2
            refine g_two hq ?_
            refine q_asgU (eu_tup (ea_cons (ev_op ev_c (word_at T.cl_Sums T.n_Sums_words (hS.ex e5) (ev_var rfl) (ev_var rfl) hat) (rv_signAt T hp)) (ea_cons (ev_var rfl) (ea_cons (ev_var rfl) ea_nil))) (by simp)) fun t H6 _ e6' ht => ?_
            have e6 := e5.trans e6'
            have htd : Td H6 (eS (.bin p s s2)) (.ref t) := ⟨t, _, rfl, ht, _, _, rfl, rfl, _, _, rfl, (hv.ex ((e3'.trans e4').trans e5')).ex e6', _, _, rfl, hv2.ex e6', rfl⟩
            have hdp : deep (.bin p s s2) = 1 + max (deep s) (deep s2) := rfl
            refine q_when (b := (decide (24 < terms (.bin p s s2)) || decide (6 < deep (.bin p s s2)))) (et_or (et_is (et_test (ev_op (ev_call (z := .int (terms (.bin p s s2))) (ea_cons (ev_var rfl) ea_nil) fun H7 e7 Q' q' E' => ⟨_, .bin p s s2, rfl, htd.ex e7, by omega, q'⟩) ev_c rv_I0)) (by
                by_cases h : 24 < terms (.bin p s s2)
                · rw [decide_eq_true h]
                  exact decide_eq_true (by omega)
                · rw [decide_eq_false h]
                  exact decide_eq_false (by omega))) fun _ =>
              et_is (et_test (ev_op (ev_call (z := .int (deep (.bin p s s2))) (ea_cons (ev_var rfl) ea_nil) fun H7 e7 Q' q' E' => ⟨_, .bin p s s2, rfl, htd.ex e7, by omega, q'⟩) ev_c rv_I0)) (by
                by_cases h : 6 < deep (.bin p s s2)
                · rw [decide_eq_true h]
                  exact decide_eq_true (by omega)
                · rw [decide_eq_false h]
                  exact decide_eq_false (by omega))) (fun h H7 e7' => ?_) (fun h H7 e7' => ?_)
            · rw [Bool.or_eq_true, decide_eq_true_eq, decide_eq_true_eq] at h
              dsimp only at hmo
              rw [if_pos h] at hmo
              have e7 := e6.trans e7'
              refine s_out fun Q' => a_meth (ev_var rfl) (e7 _ _ ho) rfl (ea_cons (ev_var rfl) ea_nil) fun H8 e8 => ⟨o, na, wa, names, ws, line, _, rfl, hS.ex (e7.trans e8), ?_⟩
              have := (k.err hmo).mono (e7.trans e8)
              have ee : ((ws.length - (r.length + 1) + 1 : Nat) : Int) = ((ws.length - (w :: r).length : Nat) : Int) + 1 := by rw [List.length_cons]; omega
              rw [ee] at this
              exact this
            · rw [Bool.or_eq_false_iff, decide_eq_false_iff_not, decide_eq_false_iff_not] at h
              dsimp only at hmo
              rw [if_neg (fun z => z.elim h.1 h.2)] at hmo
              refine s_asg (ev_var rfl) fun H8 e8 => ⟨r2.length, by rw [List.length_cons]; omega, .bin p s s2, r2, kk', _, _, _, rfl, (e6.trans e7').trans e8, htd.ex (e7'.trans e8), by omega, List.IsSuffix.trans f1 hbr, by omega, hmo, rfl⟩
          · rw [he2] at hmo
            exact (k.err hmo).mono (e3.trans e4')
        · have hok : whole (oneN names m) (ws.drop i) = .ok (s, w :: r) := by
            rw [hmo, more]
            cases h : sgOf w with
            | none => rfl
            | some p =>
              rw [h] at hs
              cases hs
          exact s_retU (eu_tup (ea_cons (ev_var rfl) (ea_cons (ev_var rfl) ea_nil)) (by simp)) fun p H4 hp e4 h4 => hfin H4 (e3.trans e4) hok p h4
    · refine (k.err (x := x) ?_).mono e1
      unfold whole
      rw [he]
def spWh (C CL : Addr) (m : Nat) : Sp := fun vs H Q E => m ≠ 0 ∧ spWhole C CL (m - 1) vs H Q E
theorem b_one (T : Txt K mg w a) (m : Nat) (C_whole : m ≠ 0 → MetG (CXX P w) P w K mg base (11 + 2 * m) a.cS "whole" (spWhole a.cS a.cBL (m - 1)) []) : MetG (CXX P w) P w K mg base (12 + 2 * m) a.cS "one" (spOne a.cS a.cBL m) [] := by
  have M_Sums_whole : MetG (CXX P w) P w K mg base (11 + 2 * m) a.cS "whole" (spWh a.cS a.cBL m) [] := by
    by_cases hm : m = 0
    · obtain ⟨f, fd, D, hh⟩ := T.m_Sums_whole
      exact ⟨f, fd, ["self", "at", "within"], [], T.cl_Sums, hh, FnOk.never fun vs H Q E h => h.1 hm, D.bindsN (fun _ _ _ _ _ _ us hl => match us, hl with | [_, _, _], _ => rfl), .nil⟩
    · obtain ⟨f, fd, ps, ds, h1, h2, F, r⟩ := (C_whole hm).ex
      exact ⟨f, fd, ps, ds, h1, h2, F.imp fun vs H Q E h => h.2, r⟩
  have M_Sums_fail : MetG (CXX P w) P w K mg base 3 a.cS "fail" (spSFail a.cS a.cBL) [] := c_Sums_fail T
  have C_number_in : CalG CX0 P w K mg base 1 "number_in" spNumberIn [] := c_number_in T
  obtain ⟨f, fd, D, hm⟩ := T.m_Sums_one
  refine ⟨f, fd, ["self", "at", "within"], [], T.cl_Sums, hm, (?_ : FnOk P w K mg base (CXX P w) (11 + 2 * m + 1) f fd ["self", "at", "within"] (spOne a.cS a.cBL m)).mono (by omega), D.bindsN (fun _ _ _ _ _ _ us hl => match us, hl with | [_, _, _], _ => rfl), .nil⟩
  refine D.ok sc_Sums_one (fun vs H Q E h => ?_) (fun cdv A outer s H vs Q E hr h => ⟨_, (pss_cons (ps_if (pt_cmpR op_ge (pv 1) (pe_callB call_len_seq (by rfl) T.b_len (by decide +kernel) (pa_cons (pe_fld (pv 0) rfl) pa_nil)) (nomark _)) (pss_one (ps_expr (pe_mX M_Sums_fail hr (by omega) (passes_call (takes_of rfl rfl rfl rfl) (fun _ _ _ _ h => h)) (pv 0) (pa_cons (pv 1) pa_nil)))) pss_nil)
      (pss_cons (ps_set (i := 3) sc_Sums_one.nd rfl (Or.inl rfl) (pe_ix ix_list (pe_fld (pv 0) rfl) (pv 1) (fun _ _ => rfl)))
      (pss_cons (ps_if (pt_cmpR op_eq (pv 3) pe_str (nomark _)) (pss_cons (ps_if (pt_cmpR op_eq (pv 2) (C8.pe_gc (by rfl) T.g_MOST_DEPTH) (nomark _)) (pss_one (ps_expr (pe_mX M_Sums_fail hr (by omega) (passes_call (takes_of rfl rfl rfl rfl) (fun _ _ _ _ h => h)) (pv 0) (pa_cons (pv 1) pa_nil)))) pss_nil)
      (pss_cons (ps_asg (pe_mX M_Sums_whole hr (by omega) (passes_call (takes_of rfl rfl rfl rfl) (fun _ _ _ _ h => h)) (pv 0) (pa_cons (pe_op op_add (pv 1) pe_int) (pa_cons (pe_op op_add (pv 2) pe_int) pa_nil))) (pg_tup (by rfl) (pgs_cons (pg_name (i := 4) sc_Sums_one.nd rfl (Or.inl rfl)) (pgs_cons (pg_name (i := 5) sc_Sums_one.nd rfl (Or.inl rfl)) pgs_nil))))
      (pss_cons (ps_if (PW.pt (pw_or (pt_not (pt_val (pe_callB call_isi (by rfl) T.b_isinstance (by decide +kernel) (pa_cons (pv 4) (pa_cons (pe_bltn (by rfl) T.b_tuple (by decide +kernel) (show RelV (.ty "tuple") (.type "tuple") from rfl)) pa_nil))))) (pw_or (pt_cmpR op_ge (pv 5) (pe_callB call_len_seq (by rfl) T.b_len (by decide +kernel) (pa_cons (pe_fld (pv 0) rfl) pa_nil)) (nomark _)) (pw_or1 (pt_cmpR op_ne (pe_ix ix_list (pe_fld (pv 0) rfl) (pv 5) (fun _ _ => rfl)) pe_str (nomark _)))))) (pss_one (ps_expr (pe_mX M_Sums_fail hr (by omega) (passes_call (takes_of rfl rfl rfl rfl) (fun _ _ _ _ h => h)) (pv 0) (pa_cons (pv 5) pa_nil)))) pss_nil)
      (pss_one (ps_ret (pe_tup (pa_cons (pv 4) (pa_cons (pe_op op_add (pv 5) pe_int) pa_nil)))))))) pss_nil)
      (pss_cons (ps_set (i := 6) sc_Sums_one.nd rfl (Or.inl rfl) (pe_f0 C_number_in hr (by omega) (by rfl) (pa_cons (pv 3) (pa_cons (pe_un un_neg (C8.pe_gc (by rfl) T.g_MOST_CONSTANT)) (pa_cons (C8.pe_gc (by rfl) T.g_MOST_CONSTANT) pa_nil)))))
      (pss_cons (ps_if (PW.pt (pw_and (pt_cmpR op_isN (pv 6) pe_non (nomark _)) (pw_and1 (pt_cmpR op_notIn_seq (pv 3) (pe_fld (pv 0) rfl) (by rfl))))) (pss_one (ps_expr (pe_mX M_Sums_fail hr (by omega) (passes_call (takes_of rfl rfl rfl rfl) (fun _ _ _ _ h => h)) (pv 0) (pa_cons (pv 1) pa_nil)))) pss_nil)
      (pss_one (ps_ret (pe_tup (pa_cons (pe_ifExp (pt_cmpR op_isN (pv 6) pe_non (nomark _)) (pv 3) (pv 6)) (pa_cons (pe_op op_add (pv 1) pe_int) pa_nil)))))))))), ?_⟩)
  · obtain ⟨o, na, wa, names, ws, line, i, rfl, _⟩ := h
    rfl
  · obtain ⟨o, na, wa, names, ws, line, i, rfl, hm6, hS, hw, hi, k⟩ := h
    obtain ⟨dx, ho⟩ := hS.at_
    -- fail(at) at j words left
    have hfail : ∀ {x : Nat} (j : Nat) (H1 : Hp), Ex H H1 → oneN names m (ws.drop i) = .error x → (ws.length - x = j) → ∀ Q', spSFail a.cS a.cBL [.ref o, .int j] H1 Q' E := fun {x} j H1 e1 he hx Q' => ⟨o, na, wa, names, ws, line, j, rfl, hS.ex e1, by
      have := (k.err he).mono e1
      have ee : ((ws.length - x + 1 : Nat) : Int) = (j : Int) + 1 := by omega
      rw [ee] at this
      exact this⟩
    cases hl : ws.drop i with
    | nil =>
      have hil : ws.length ≤ i := List.drop_eq_nil_iff.mp hl
      refine q_yes (et_is (et_test (ev_op (ev_var rfl) (seq_len T.cl_Sums T.n_Sums_words hS (ev_var rfl)) rv_I0)) (decide_eq_true (by omega))) fun H1 e1 => ?_
      have he : oneN names m (ws.drop i) = .error 0 := by
        rw [hl]
        cases m <;> rw [oneN]
      exact s_out fun Q' => a_meth (ev_var rfl) (e1 _ _ ho) rfl (ea_cons (ev_var rfl) ea_nil) fun H2 e2 => hfail i H2 (e1.trans e2) he (by omega) Q'
    | cons x r =>
      have hsf : x :: r <:+ ws := by
        rw [← hl]
        exact List.drop_suffix i ws
      have hlen : ws.length - i = r.length + 1 := by
        have := congrArg List.length hl
        rw [List.length_drop, List.length_cons] at this
        exact this
      have hxi : ws[i]? = some x := by
        have := sfx_get hsf
        have e : ws.length - (r.length + 1) = i := by omega
        rw [e] at this
        exact this
      have hxm : x ∈ ws := List.mem_of_getElem? hxi
      have hrs := sfx_tail hsf
      refine q_no (et_is (et_test (ev_op (ev_var rfl) (seq_len T.cl_Sums T.n_Sums_words hS (ev_var rfl)) rv_I0)) (decide_eq_false (by omega))) fun H1 e1 => ?_
      refine q_asg (v := .str x) (word_at T.cl_Sums T.n_Sums_words (hS.ex e1) (ev_var rfl) (ev_var rfl) hxi) fun H2 e2' => ?_
      have e2 := e1.trans e2'
      by_cases hx : x = "("
      · refine q_yes (et_w (ev_var rfl) (decide_eq_true hx)) fun H3 e3' => ?_
        have e3 := e2.trans e3'
        refine q_when (b := decide (m = 0)) (et_test (ev_eqI (ev_var rfl) ev_c (by
            by_cases h : m = 0
            · rw [decide_eq_true h]
              exact decide_eq_true (by omega)
            · rw [decide_eq_false h]
              exact decide_eq_false (by omega)))) (fun h H4 e4 => ?_) (fun h H4 e4' => ?_)
        · have hm0 := of_decide_eq_true h
          have he : oneN names m (ws.drop i) = .error (r.length + 1) := by
            rw [hl, hm0, oneN, if_pos hx]
          exact s_out fun Q' => a_meth (ev_var rfl) (e4 _ _ (e3 _ _ ho)) rfl (ea_cons (ev_var rfl) ea_nil) fun H5 e5 => hfail i H5 ((e3.trans e4).trans e5) he (by omega) Q'
        · have hm0 : m ≠ 0 := of_decide_eq_false h
          obtain ⟨m', rfl⟩ : ∃ m', m = m' + 1 := ⟨m - 1, by omega⟩
          have e4 := e3.trans e4'
          have hdr : ws.drop (i + 1) = r := by
            rw [← List.drop_drop, hl]
            rfl
          have hone : oneN names (m' + 1) (ws.drop i) = closing (whole (oneN names m') r) := by rw [hl, oneN, if_pos hx]
          refine a_meth (ev_var rfl) (e4 _ _ ho) rfl (ea_cons (ev_op (ev_var rfl) ev_c rv_I0) (ea_cons (ev_op (ev_var rfl) ev_c rv_I0) ea_nil)) fun H5 e5' => ⟨hm0, o, na, wa, names, ws, line, i + 1, ?_, by omega, hS.ex (e4.trans e5'), hw, by omega, ?_⟩
          · show [V.ref o, V.int ((i : Int) + 1), V.int (6 - ((m' + 1 : Nat) : Int) + 1)] = [V.ref o, V.int ((i + 1 : Nat) : Int), V.int (6 - ((m' + 1 - 1 : Nat) : Int))]
            have h1 : (i : Int) + 1 = ((i + 1 : Nat) : Int) := by omega
            have h2 : 6 - ((m' + 1 : Nat) : Int) + 1 = 6 - ((m' + 1 - 1 : Nat) : Int) := by omega
            rw [h1, h2]
          rw [hdr]
          show ResS a.cBL (whole (oneN names m') r) ws.length line H5 _ E
          refine .mk (fun s b he p v H6 e6' hp hv => ?_) fun y he => ?_
          · have e6 := (e4.trans e5').trans e6'
            obtain ⟨g1, g2, g3⟩ := whole_sfx (one_sfx names m') he
            have hb : b <:+ ws := List.IsSuffix.trans g1 hrs
            have hbl := hb.length_le
            rw [he] at hone
            refine g_two hp ?_
            cases b with
            | nil =>
              have hone' : oneN names (m' + 1) (ws.drop i) = .error 0 := by
                rw [hone, closing]
                cases s.isBin <;> rfl
              refine q_when (b := (!s.isBin || (true || false))) (et_or (et_not (et_B (td_isTup hv (ev_var rfl) ev_c))) fun _ => et_or (et_is (et_test (ev_op (ev_var rfl) (seq_len T.cl_Sums T.n_Sums_words (hS.ex e6) (ev_var rfl)) rv_I0)) (decide_eq_true (by rw [List.length_nil]; omega))) fun h => nomatch h) (fun _ H7 e7 => ?_) (fun h => absurd h (by cases s.isBin <;> decide))
              exact s_out fun Q' => a_meth (ev_var rfl) (e7 _ _ (e6 _ _ ho)) rfl (ea_cons (ev_var rfl) ea_nil) fun H8 e8 => hfail _ H8 ((e6.trans e7).trans e8) hone' (by rw [List.length_nil]) Q'
            | cons z r2 =>
              rw [List.length_cons] at hbl
              refine q_when (b := (!s.isBin || (false || !decide (z = ")")))) (et_or (et_not (et_B (td_isTup hv (ev_var rfl) ev_c))) fun _ => et_or (et_is (et_test (ev_op (ev_var rfl) (seq_len T.cl_Sums T.n_Sums_words (hS.ex e6) (ev_var rfl)) rv_I0)) (decide_eq_false (by rw [List.length_cons]; omega))) fun _ =>
                et_test (ev_neS (word_at T.cl_Sums T.n_Sums_words (hS.ex e6) (ev_var rfl) (ev_var rfl) (sfx_get hb)) ev_c rfl)) (fun h H7 e7 => ?_) (fun h H7 e7 => ?_)
              · have hone' : oneN names (m' + 1) (ws.drop i) = .error (r2.length + 1) := by
                  rw [hone, closing]
                  cases hs : s.isBin with
                  | false => rfl
                  | true =>
                    rw [hs, Bool.not_true, Bool.false_or, Bool.false_or, Bool.not_eq_true', decide_eq_false_iff_not] at h
                    rw [if_pos rfl]
                    exact if_neg h
                exact s_out fun Q' => a_meth (ev_var rfl) (e7 _ _ (e6 _ _ ho)) rfl (ea_cons (ev_var rfl) ea_nil) fun H8 e8 => hfail _ H8 ((e6.trans e7).trans e8) hone' (by rw [List.length_cons]) Q'
              · rw [Bool.or_eq_false_iff, Bool.not_eq_false', Bool.false_or, Bool.not_eq_false', decide_eq_true_eq] at h
                have hone' : oneN names (m' + 1) (ws.drop i) = .ok (s, r2) := by
                  rw [hone, closing, if_pos h.1]
                  exact if_pos h.2
                refine s_retU (eu_tup (ea_cons (ev_var rfl) (ea_cons (ev_op (ev_var rfl) ev_c rv_I0) ea_nil)) (by simp)) fun p2 H8 hp2 e8 h8 => k.ok hone' p2 v H8 ((e6.trans e7).trans e8) ?_ (hv.ex (e7.trans e8))
                have ee : ((ws.length - (z :: r2).length : Nat) : Int) + 1 = ((ws.length - r2.length : Nat) : Int) := by rw [List.length_cons]; omega
                rw [h8, ee]
          · rw [he] at hone
            exact (k.err hone).mono (e4.trans e5')
      · refine q_no (et_w (ev_var rfl) (decide_eq_false hx)) fun H3 e3' => ?_
        have e3 := e2.trans e3'
        have hone : oneN names m (ws.drop i) = atom names x r := by
          rw [hl]
          cases m <;> rw [oneN, if_neg hx]
        have hxw := hw.2 x hxm
        refine q_asg (v := oI (numIn x (-1000) 1000)) (ev_call (ea_cons (ev_var rfl) (ea_cons (ev_un ev_c ru_neg) (ea_cons ev_c ea_nil))) fun H4 e4 Q' q E' => ⟨x, -1000, 1000, rfl, hxw.2, hxw.1, q⟩) fun H4 e4' => ?_
        have e4 := e3.trans e4'
        unfold atom at hone
        cases hn : numIn x (-1000) 1000 with
        | some j =>
          rw [hn] at hone
          refine q_no (et_and (a := false) (b := false) (et_test (ev_isN (ev_var rfl) rfl)) fun h => nomatch h) fun H5 e5 => ?_
          refine s_retU (eu_tup (ea_cons (x := V.int j) (ev_if (b := false) (et_test (ev_isN (ev_var rfl) rfl)) (fun h => nomatch h) fun _ => ev_var rfl) (ea_cons (ev_op (ev_var rfl) ev_c rv_I0) ea_nil)) (by simp)) fun p2 H8 hp2 e8 h8 => k.ok hone p2 (.int j) H8 ((e4.trans e5).trans e8) ?_ rfl
          have ee : (i : Int) + 1 = ((ws.length - r.length : Nat) : Int) := by omega
          rw [h8, ee]
        | none =>
          rw [hn] at hone
          dsimp only at hone
          refine q_when (b := (true && !decide (x ∈ names))) (et_and (et_test (ev_isN (ev_var rfl) rfl)) fun _ => et_test (ev_op (ev_var rfl) (ev_fld (ev_var rfl) (e4 _ _ ho) T.cl_Sums T.n_Sums_names rfl) (rv_niTs (st_of ((hS.ex e4).nm))))) (fun h H5 e5 => ?_) (fun h H5 e5 => ?_)
          · rw [Bool.true_and, Bool.not_eq_true', decide_eq_false_iff_not] at h
            rw [if_neg h] at hone
            exact s_out fun Q' => a_meth (ev_var rfl) (e5 _ _ (e4 _ _ ho)) rfl (ea_cons (ev_var rfl) ea_nil) fun H6 e6 => hfail i H6 ((e4.trans e5).trans e6) hone (by omega) Q'
          · rw [Bool.true_and, Bool.not_eq_false', decide_eq_true_eq] at h
            rw [if_pos h] at hone
            refine s_retU (eu_tup (ea_cons (x := V.str x) (ev_if (b := true) (et_test (ev_isN (ev_var rfl) rfl)) (fun _ => ev_var rfl) fun h => nomatch h) (ea_cons (ev_op (ev_var rfl) ev_c rv_I0) ea_nil)) (by simp)) fun p2 H8 hp2 e8 h8 => k.ok hone p2 (.str x) H8 ((e4.trans e5).trans e8) ?_ rfl
            have ee : (i : Int) + 1 = ((ws.length - r.length : Nat) : Int) := by omega
            rw [h8, ee]
theorem b_sums (T : Txt K mg w a) : ∀ m, MetG (CXX P w) P w K mg base (12 + 2 * m) a.cS "one" (spOne a.cS a.cBL m) [] ∧ MetG (CXX P w) P w K mg base (13 + 2 * m) a.cS "whole" (spWhole a.cS a.cBL m) []
  | 0 => by
    have h1 := b_one (P := P) (base := base) T 0 fun h => absurd rfl h
    exact ⟨h1, b_whole T 0 h1⟩
  | m + 1 => by
    have h := b_sums T m
    have h1 := b_one (P := P) (base := base) T (m + 1) fun _ => by
      have e : 11 + 2 * (m + 1) = 13 + 2 * m := by omega
      rw [e]
      exact h.2
    exact ⟨h1, b_whole T (m + 1) h1⟩
theorem c_whole (T : Txt K mg w a) : MetG (CXX P w) P w K mg base 25 a.cS "whole" (spWhole a.cS a.cBL 6) [] := (b_sums T 6).2
end
end RS
end
section
set_option Elab.async false
set_option linter.all false
set_option maxRecDepth 100000
set_option maxHeartbeats 4000000
/-! W10: a reader on the heap. -/
namespace RS
open PySem L2 TL Evl
/-! ### a reader's places -/
structure OpA where
  o : Addr
  wa : Addr
  ba : Addr
  bs : List Addr
structure RA where
  r : Addr
  pa : Addr
  ta : Addr
  /-- the top first -/
  ops : List OpA
def OpA.cs (A : OpA) : List Addr := A.o :: A.wa :: A.ba :: A.bs
def opsC : List OpA → List Addr
  | [] => []
  | A :: r => A.cs ++ opsC r
def RA.cs (R : RA) : List Addr := R.r :: R.pa :: R.ta :: opsC R.ops
def opF (wa : Addr) (tv : V) (ba : Addr) : List (Str × V) := [("words", .ref wa), ("test", tv), ("blocks", .ref ba)]
def rdF (nv : V) (pa ta : Addr) (n : Int) (b : Bool) : List (Str × V) := [("names", nv), ("procedures", .ref pa), ("tower", .ref ta), ("parts", .int n), ("has_begun", .bl b)]
def BlkOk (H : Hp) (b : Addr) (l : List Pt) : Prop := ∃ vs, H b = some (.lst vs) ∧ TdL H (ePs l) vs
/-- the words and the test of an open part tell its kind -/
def KdOk (H : Hp) (k : Kd) (ws : List Str) (tv : V) : Prop := match k with
  | .prog => ws = (["program"] : List Str)
  | .to x => ws = (["to", x] : List Str)
  | .iff s z => ws.head? = some ("if" : Str) ∧ Td H (eT s z) tv
  | .whl s z => ws.head? = some ("while" : Str) ∧ Td H (eT s z) tv
  | .rep n => ∃ x, ws = (["repeat", x] : List Str) ∧ intText? x = some (n : Int) ∧ x.length ≤ 640
def BlksOk (H : Hp) (bs : List Addr) (op : Op) : Prop := match op.dn with
  | none => ∃ b, bs = [b] ∧ BlkOk H b op.cu
  | some d => ∃ b c, bs = [b, c] ∧ BlkOk H b d ∧ BlkOk H c op.cu
structure OpOk (CO : Addr) (H : Hp) (A : OpA) (op : Op) : Prop where
  ins : ∃ dx tv ws, H A.o = some (.ins CO dx (opF A.wa tv A.ba)) ∧ H A.wa = some (.lst (ws.map V.str)) ∧ KdOk H op.kd ws tv
  bl : H A.ba = some (.lst (A.bs.map V.ref))
  bk : BlksOk H A.bs op
def OpsOk (CO : Addr) (H : Hp) : List OpA → List Op → Prop
  | [], l => l = []
  | A :: r, l => ∃ op l', l = op :: l' ∧ OpOk CO H A op ∧ OpsOk CO H r l'
def NmOk (H : Hp) (n : Option (List Str)) (nv : V) : Prop := match n with
  | none => nv = .non
  | some l => ∃ na, nv = .ref na ∧ H na = some (.tup (l.map V.str))
structure RdOk (CR CO : Addr) (H : Hp) (R : RA) (st : Rd) : Prop where
  ins : ∃ dx nv, H R.r = some (.ins CR dx (rdF nv R.pa R.ta (st.parts : Nat) st.begun)) ∧ NmOk H st.names nv
  pr : ∃ vs, H R.pa = some (.lst vs) ∧ TdL H (st.procs.map eQ) vs
  tw : H R.ta = some (.lst ((R.ops.map fun A => V.ref A.o).reverse))
  op : OpsOk CO H R.ops st.tw
  nd : R.cs.Nodup
/-! ### what stays -/
def Agree (C : List Addr) (H H' : Hp) : Prop := ∀ c ∈ C, H' c = H c
theorem Agree.of_ex {C : List Addr} {H H' : Hp} (e : Ex H H') (h : ∀ c ∈ C, ∃ o, H c = some o) : Agree C H H' := fun c hc => by
  obtain ⟨o, ho⟩ := h c hc
  rw [ho]
  exact e _ _ ho
theorem Agree.sub {C D : List Addr} {H H' : Hp} (h : Agree C H H') (s : ∀ c ∈ D, c ∈ C) : Agree D H H' := fun c hc => h c (s c hc)
theorem Agree.upd {C : List Addr} {H : Hp} {a : Addr} {o : HO} (h : a ∉ C) : Agree C H (L2.upd H a o) := fun c hc => upd_ne fun z => h (z ▸ hc)
theorem Agree.trans {C : List Addr} {H H1 H2 : Hp} (a : Agree C H H1) (b : Agree C H1 H2) : Agree C H H2 := fun c hc => (b c hc).trans (a c hc)
theorem BlkOk.frame {H H' : Hp} {b : Addr} {l : List Pt} (h : BlkOk H b l) (a : H' b = H b) (k : TK H H') : BlkOk H' b l := by
  obtain ⟨vs, h1, h2⟩ := h
  exact ⟨vs, by rw [a, h1], TdL.tk k _ _ h2⟩
theorem KdOk.tk {H H' : Hp} {kd : Kd} {ws : List Str} {tv : V} (k : TK H H') (h : KdOk H kd ws tv) : KdOk H' kd ws tv := by
  cases kd with
  | prog => exact h
  | to x => exact h
  | iff s z => exact ⟨h.1, Td.tk k _ _ h.2⟩
  | whl s z => exact ⟨h.1, Td.tk k _ _ h.2⟩
  | rep n => exact h
theorem BlksOk.frame {H H' : Hp} {bs : List Addr} {op : Op} (h : BlksOk H bs op) (a : Agree bs H H') (k : TK H H') : BlksOk H' bs op := by
  unfold BlksOk at *
  cases hd : op.dn with
  | none =>
    rw [hd] at h
    obtain ⟨b, rfl, h⟩ := h
    exact ⟨b, rfl, h.frame (a b (by simp)) k⟩
  | some d =>
    rw [hd] at h
    obtain ⟨b, c, rfl, h1, h2⟩ := h
    exact ⟨b, c, rfl, h1.frame (a b (by simp)) k, h2.frame (a c (by simp)) k⟩
theorem OpOk.frame {CO : Addr} {H H' : Hp} {A : OpA} {op : Op} (h : OpOk CO H A op) (a : Agree A.cs H H') (k : TK H H') : OpOk CO H' A op := by
  obtain ⟨dx, tv, ws, h1, h2, h3⟩ := h.ins
  exact ⟨⟨dx, tv, ws, by rw [a _ (by simp [OpA.cs]), h1], by rw [a _ (by simp [OpA.cs]), h2], h3.tk k⟩, by rw [a _ (by simp [OpA.cs]), h.bl], h.bk.frame (a.sub fun c hc => by simp [OpA.cs, hc]) k⟩
theorem OpsOk.frame {CO : Addr} {H H' : Hp} (k : TK H H') : ∀ {l : List OpA} {tw : List Op}, OpsOk CO H l tw → Agree (opsC l) H H' → OpsOk CO H' l tw
  | [], _, h, _ => h
  | A :: r, tw, h, a => by
    obtain ⟨op, l', e, h1, h2⟩ := h
    exact ⟨op, l', e, h1.frame (a.sub fun c hc => List.mem_append_left _ hc) k, OpsOk.frame k h2 (a.sub fun c hc => List.mem_append_right _ hc)⟩
theorem OpsOk.len {CO : Addr} {H : Hp} : ∀ {l : List OpA} {tw : List Op}, OpsOk CO H l tw → l.length = tw.length
  | [], _, h => by rw [show _ = _ from h]; rfl
  | A :: r, tw, h => by
    obtain ⟨op, l', e, h1, h2⟩ := h
    rw [e, List.length_cons, List.length_cons, OpsOk.len h2]
theorem OpsOk.get {CO : Addr} {H : Hp} : ∀ {l : List OpA} {tw : List Op} {i : Nat} {A : OpA}, OpsOk CO H l tw → l[i]? = some A → ∃ op, tw[i]? = some op ∧ OpOk CO H A op
  | [], _, i, A, h, e => by simp at e
  | B :: r, tw, i, A, h, e => by
    obtain ⟨op, l', rfl, h1, h2⟩ := h
    cases i with
    | zero =>
      cases (Option.some.inj e : B = A)
      exact ⟨op, rfl, h1⟩
    | succ i => exact OpsOk.get (i := i) h2 e
theorem NmOk.tk {H H' : Hp} {n : Option (List Str)} {nv : V} (k : TK H H') (h : NmOk H n nv) : NmOk H' n nv := by
  cases n with
  | none => exact h
  | some l =>
    obtain ⟨na, e, h⟩ := h
    exact ⟨na, e, k _ _ h⟩
theorem OpOk.known {CO : Addr} {H : Hp} {A : OpA} {op : Op} (h : OpOk CO H A op) : ∀ c ∈ A.cs, ∃ o, H c = some o := by
  obtain ⟨dx, tv, ws, h1, h2, h3⟩ := h.ins
  have hb := h.bk
  intro c hc
  simp only [OpA.cs, List.mem_cons] at hc
  rcases hc with rfl | rfl | rfl | hc
  · exact ⟨_, h1⟩
  · exact ⟨_, h2⟩
  · exact ⟨_, h.bl⟩
  · unfold BlksOk at hb
    split at hb
    · obtain ⟨b, e, vs, h4, _⟩ := hb
      rw [e] at hc
      rw [List.mem_singleton.mp hc]
      exact ⟨_, h4⟩
    · obtain ⟨b, d, e, ⟨vs, h4, _⟩, ⟨vs2, h5, _⟩⟩ := hb
      rw [e] at hc
      simp only [List.mem_cons, List.not_mem_nil, or_false] at hc
      rcases hc with rfl | rfl
      · exact ⟨_, h4⟩
      · exact ⟨_, h5⟩
theorem OpsOk.known {CO : Addr} {H : Hp} : ∀ {l : List OpA} {tw : List Op}, OpsOk CO H l tw → ∀ c ∈ opsC l, ∃ o, H c = some o
  | [], _, h, c, hc => by cases hc
  | A :: r, tw, h, c, hc => by
    obtain ⟨op, l', e, h1, h2⟩ := h
    rcases List.mem_append.mp hc with hc | hc
    · exact h1.known c hc
    · exact OpsOk.known h2 c hc
theorem RdOk.known {CR CO : Addr} {H : Hp} {R : RA} {st : Rd} (h : RdOk CR CO H R st) : ∀ c ∈ R.cs, ∃ o, H c = some o := by
  obtain ⟨dx, nv, h1, _⟩ := h.ins
  obtain ⟨vs, h2, _⟩ := h.pr
  intro c hc
  simp only [RA.cs, List.mem_cons] at hc
  rcases hc with rfl | rfl | rfl | hc
  · exact ⟨_, h1⟩
  · exact ⟨_, h2⟩
  · exact ⟨_, h.tw⟩
  · exact h.op.known c hc
theorem RdOk.frame {CR CO : Addr} {H H' : Hp} {R : RA} {st : Rd} (h : RdOk CR CO H R st) (a : Agree R.cs H H') (k : TK H H') : RdOk CR CO H' R st := by
  obtain ⟨dx, nv, h1, h2⟩ := h.ins
  obtain ⟨vs, h3, h4⟩ := h.pr
  exact ⟨⟨dx, nv, by rw [a _ (by simp [RA.cs]), h1], h2.tk k⟩, ⟨vs, by rw [a _ (by simp [RA.cs]), h3], TdL.tk k _ _ h4⟩, by rw [a _ (by simp [RA.cs]), h.tw], h.op.frame k (a.sub fun c hc => by simp [RA.cs, hc]), h.nd⟩
theorem RdOk.ex {CR CO : Addr} {H H' : Hp} {R : RA} {st : Rd} (e : Ex H H') (h : RdOk CR CO H R st) : RdOk CR CO H' R st := h.frame (.of_ex e h.known) (.of e)
/-- all but these places stays -/
def Same (C : List Addr) (H H' : Hp) : Prop := ∀ a o, a ∉ C → H a = some o → H' a = some o
theorem Same.of_ex {C : List Addr} {H H' : Hp} (e : Ex H H') : Same C H H' := fun a o _ h => e a o h
theorem Same.refl {C : List Addr} {H : Hp} : Same C H H := fun _ _ _ h => h
theorem Same.trans {C : List Addr} {H H1 H2 : Hp} (a : Same C H H1) (b : Same C H1 H2) : Same C H H2 := fun x o hx h => b x o hx (a x o hx h)
theorem Same.sub {C D : List Addr} {H H' : Hp} (h : Same C H H') (s : ∀ c ∈ C, c ∈ D) : Same D H H' := fun a o ha ho => h a o (fun z => ha (s a z)) ho
theorem Same.upd {C : List Addr} {H : Hp} {a : Addr} {o : HO} (h : a ∈ C) : Same C H (L2.upd H a o) := fun b u hb hu => by
  rw [upd_ne fun z => hb (by rw [z]; exact h)]
  exact hu
/-- what H0 knows stays, when the places are new to it -/
theorem Same.ex {C : List Addr} {H0 H H' : Hp} (s : Same C H H') (e : Ex H0 H) (n : ∀ c ∈ C, H0 c = none) : Ex H0 H' := fun a o h => s a o (fun z => by rw [n a z] at h; cases h) (e a o h)
/-- the two-step form: places of H that were new to H0 may change -/
theorem Same.tk {C : List Addr} {H H' : Hp} (s : Same C H H') (n : ∀ c ∈ C, ∀ xs, H c ≠ some (.tup xs)) : TK H H' := fun a xs h => s a _ (fun z => n a z xs h) h
theorem OpOk.noTup {CO : Addr} {H : Hp} {A : OpA} {op : Op} (h : OpOk CO H A op) : ∀ c ∈ A.cs, ∀ xs, H c ≠ some (.tup xs) := by
  obtain ⟨dx, tv, ws, h1, h2, h3⟩ := h.ins
  have hb := h.bk
  intro c hc xs z
  simp only [OpA.cs, List.mem_cons] at hc
  rcases hc with rfl | rfl | rfl | hc
  · rw [h1] at z
    cases z
  · rw [h2] at z
    cases z
  · rw [h.bl] at z
    cases z
  · unfold BlksOk at hb
    split at hb
    · obtain ⟨b, e, vs, h4, _⟩ := hb
      rw [e] at hc
      rw [List.mem_singleton.mp hc, h4] at z
      cases z
    · obtain ⟨b, d, e, ⟨vs, h4, _⟩, ⟨vs2, h5, _⟩⟩ := hb
      rw [e] at hc
      simp only [List.mem_cons, List.not_mem_nil, or_false] at hc
      rcases hc with rfl | rfl
      · rw [h4] at z
        cases z
      · rw [h5] at z
        cases z
theorem OpsOk.noTup {CO : Addr} {H : Hp} : ∀ {l : List OpA} {tw : List Op}, OpsOk CO H l tw → ∀ c ∈ opsC l, ∀ xs, H c ≠ some (.tup xs)
  | [], _, h, c, hc => by cases hc
  | A :: r, tw, h, c, hc => by
    obtain ⟨op, l', e, h1, h2⟩ := h
    rcases List.mem_append.mp hc with hc | hc
    · exact h1.noTup c hc
    · exact OpsOk.noTup h2 c hc
theorem RdOk.noTup {CR CO : Addr} {H : Hp} {R : RA} {st : Rd} (h : RdOk CR CO H R st) : ∀ c ∈ R.cs, ∀ xs, H c ≠ some (.tup xs) := by
  obtain ⟨dx, nv, h1, _⟩ := h.ins
  obtain ⟨vs, h2, _⟩ := h.pr
  intro c hc xs z
  simp only [RA.cs, List.mem_cons] at hc
  rcases hc with rfl | rfl | rfl | hc
  · rw [h1] at z
    cases z
  · rw [h2] at z
    cases z
  · rw [h.tw] at z
    cases z
  · exact h.op.noTup c hc xs z
/-! ### one place is written -/
theorem RdOk.tkU {CR CO : Addr} {H : Hp} {R : RA} {st : Rd} (h : RdOk CR CO H R st) {c : Addr} {o : HO} (hc : c ∈ R.cs) : TK H (upd H c o) := (Same.upd hc).tk h.noTup
theorem nd_r {R : RA} (h : R.cs.Nodup) : R.r ∉ R.pa :: R.ta :: opsC R.ops := (List.nodup_cons.mp h).1
theorem nd_pa {R : RA} (h : R.cs.Nodup) : R.pa ∉ R.ta :: opsC R.ops := (List.nodup_cons.mp (List.nodup_cons.mp h).2).1
theorem nd_ta {R : RA} (h : R.cs.Nodup) : R.ta ∉ opsC R.ops := (List.nodup_cons.mp (List.nodup_cons.mp (List.nodup_cons.mp h).2).2).1
theorem nd_ops {R : RA} (h : R.cs.Nodup) : (opsC R.ops).Nodup := (List.nodup_cons.mp (List.nodup_cons.mp (List.nodup_cons.mp h).2).2).2
/-- the reader's own fields -/
theorem RdOk.setR {CR CO : Addr} {H : Hp} {R : RA} {st st' : Rd} {dx : Addr} {nv : V} (h : RdOk CR CO H R st) (h1 : st'.procs = st.procs) (h2 : st'.tw = st.tw) (hn : NmOk H st'.names nv) :
    RdOk CR CO (upd H R.r (.ins CR dx (rdF nv R.pa R.ta (st'.parts : Nat) st'.begun))) R st' := by
  have hr := nd_r h.nd
  simp only [List.mem_cons, not_or] at hr
  have k : TK H (upd H R.r (.ins CR dx (rdF nv R.pa R.ta (st'.parts : Nat) st'.begun))) := h.tkU (by simp [RA.cs])
  obtain ⟨vs, h3, h4⟩ := h.pr
  refine ⟨⟨dx, nv, upd_same, hn.tk k⟩, ⟨vs, by rw [upd_ne (Ne.symm hr.1)]; exact h3, by rw [h1]; exact TdL.tk k _ _ h4⟩, by rw [upd_ne (Ne.symm hr.2.1)]; exact h.tw, ?_, h.nd⟩
  rw [h2]
  exact h.op.frame k (.upd hr.2.2)
/-- a procedure more -/
theorem RdOk.setP {CR CO : Addr} {H : Hp} {R : RA} {st st' : Rd} {vs : List V} {v : V} {q : Str × List Pt} (h : RdOk CR CO H R st) (hv : H R.pa = some (.lst vs)) (hq : Td H (eQ q) v) (e : st' = { st with procs := st.procs ++ [q] }) :
    RdOk CR CO (upd H R.pa (.lst (vs ++ [v]))) R st' := by
  subst e
  have hr := nd_r h.nd
  have hp := nd_pa h.nd
  simp only [List.mem_cons, not_or] at hr hp
  have k : TK H (upd H R.pa (.lst (vs ++ [v]))) := h.tkU (by simp [RA.cs])
  obtain ⟨dx, nv, h1, h2⟩ := h.ins
  obtain ⟨vs', h3, h4⟩ := h.pr
  rw [hv] at h3
  cases h3
  refine ⟨⟨dx, nv, by rw [upd_ne hr.1]; exact h1, h2.tk k⟩, ⟨_, upd_same, ?_⟩, by rw [upd_ne (Ne.symm hp.1)]; exact h.tw, h.op.frame k (.upd hp.2), h.nd⟩
  show TdL _ ((st.procs ++ [q]).map eQ) _
  rw [List.map_append]
  exact TdL.append (TdL.tk k _ _ h4) (TdL.one (Td.tk k _ _ hq))
/-- an open part more; H1 knows its places -/
theorem RdOk.push {CR CO : Addr} {H : Hp} {R : RA} {st : Rd} {A : OpA} {op : Op} (h : RdOk CR CO H R st) (ho : OpOk CO H A op) (nd : A.cs.Nodup) (dj : ∀ c ∈ A.cs, c ∉ R.cs) :
    RdOk CR CO (upd H R.ta (.lst ((R.ops.map fun A => V.ref A.o).reverse ++ [.ref A.o]))) { R with ops := A :: R.ops } { st with tw := op :: st.tw } := by
  have hr := nd_r h.nd
  have hp := nd_pa h.nd
  have ht := nd_ta h.nd
  simp only [List.mem_cons, not_or] at hr hp
  have k : TK H (upd H R.ta (.lst ((R.ops.map fun A => V.ref A.o).reverse ++ [.ref A.o]))) := h.tkU (by simp [RA.cs])
  obtain ⟨dx, nv, h1, h2⟩ := h.ins
  obtain ⟨vs', h3, h4⟩ := h.pr
  have hta : R.ta ∉ A.cs := fun z => dj _ z (by simp [RA.cs])
  refine ⟨⟨dx, nv, by rw [upd_ne hr.2.1]; exact h1, h2.tk k⟩, ⟨vs', by rw [upd_ne hp.1]; exact h3, TdL.tk k _ _ h4⟩, ?_, ⟨op, st.tw, rfl, ho.frame (.upd hta) k, h.op.frame k (.upd ht)⟩, ?_⟩
  · rw [show (A :: R.ops).map (fun A => V.ref A.o) = V.ref A.o :: R.ops.map (fun A => V.ref A.o) from rfl, List.reverse_cons]
    exact upd_same
  · have hnd := h.nd
    simp only [RA.cs, List.nodup_cons, List.mem_cons, not_or] at hnd ⊢
    simp only [opsC, List.mem_append, not_or, List.nodup_append]
    have f : ∀ c ∈ A.cs, c ≠ R.r ∧ c ≠ R.pa ∧ c ≠ R.ta ∧ c ∉ opsC R.ops := fun c hc => by
      have := dj c hc
      simp only [RA.cs, List.mem_cons, not_or] at this
      exact this
    refine ⟨⟨hnd.1.1, hnd.1.2.1, fun z => (f _ z).1 rfl, hnd.1.2.2⟩, ⟨hnd.2.1.1, fun z => (f _ z).2.1 rfl, hnd.2.1.2⟩, ⟨fun z => (f _ z).2.2.1 rfl, hnd.2.2.1⟩, nd, hnd.2.2.2, fun a ha b hb z => (f a ha).2.2.2 (z ▸ hb)⟩
/-- the top is taken away -/
theorem RdOk.pop {CR CO : Addr} {H : Hp} {R : RA} {st : Rd} {A : OpA} {ops : List OpA} {op : Op} {tw : List Op} (h : RdOk CR CO H R st) (hA : R.ops = A :: ops) (ht : st.tw = op :: tw) :
    RdOk CR CO (upd H R.ta (.lst ((ops.map fun A => V.ref A.o).reverse))) { R with ops := ops } { st with tw := tw } ∧ OpOk CO (upd H R.ta (.lst ((ops.map fun A => V.ref A.o).reverse))) A op := by
  have hr := nd_r h.nd
  have hp := nd_pa h.nd
  have hta := nd_ta h.nd
  have hnd := h.nd
  have hop := h.op
  rw [hA, ht] at hop
  rw [hA] at hr hp hta
  obtain ⟨op', tw', e, h5, h6⟩ := hop
  cases e
  simp only [List.mem_cons, not_or, opsC, List.mem_append] at hr hp hta
  have k : TK H (upd H R.ta (.lst ((ops.map fun A => V.ref A.o).reverse))) := h.tkU (by simp [RA.cs])
  obtain ⟨dx, nv, h1, h2⟩ := h.ins
  obtain ⟨vs', h3, h4⟩ := h.pr
  refine ⟨⟨⟨dx, nv, by rw [upd_ne hr.2.1]; exact h1, h2.tk k⟩, ⟨vs', by rw [upd_ne hp.1]; exact h3, TdL.tk k _ _ h4⟩, upd_same, h6.frame k (.upd hta.2), ?_⟩, h5.frame (.upd hta.1) k⟩
  rw [RA.cs, hA] at hnd
  rw [RA.cs]
  simp only [List.nodup_cons, List.mem_cons, not_or, opsC, List.mem_append, List.nodup_append] at hnd ⊢
  exact ⟨⟨hnd.1.1, hnd.1.2.1, hnd.1.2.2.2⟩, ⟨hnd.2.1.1, hnd.2.1.2.2⟩, hnd.2.2.1.2, hnd.2.2.2.2.1⟩
/-- a part more in the block that is read -/
theorem RdOk.addP {CR CO : Addr} {H : Hp} {R : RA} {st : Rd} {A : OpA} {ops : List OpA} {op : Op} {tw : List Op} {b : Addr} {vs : List V} {v : V} {p : Pt} (h : RdOk CR CO H R st) (hA : R.ops = A :: ops) (ht : st.tw = op :: tw) (hb : A.bs.getLast? = some b) (hv : H b = some (.lst vs)) (hp : Td H (eP p) v) :
    RdOk CR CO (upd H b (.lst (vs ++ [v]))) R { st with tw := RS.addP p st.tw } := by
  have hnd := h.nd
  have hop := h.op
  rw [hA, ht] at hop
  obtain ⟨op', tw', e, h5, h6⟩ := hop
  cases e
  have hbm : b ∈ A.bs := List.mem_of_getLast? hb
  have hbc : b ∈ R.cs := by
    rw [RA.cs, hA]
    simp [opsC, OpA.cs, hbm]
  have k : TK H (upd H b (.lst (vs ++ [v]))) := h.tkU hbc
  rw [RA.cs, hA] at hnd
  simp only [List.nodup_cons, List.mem_cons, not_or, opsC, List.mem_append, List.nodup_append, OpA.cs] at hnd
  obtain ⟨⟨hr1, hr2, ⟨hr3, hr4, hr5, hr6⟩, hr7⟩, ⟨hp1, ⟨hp3, hp4, hp5, hp6⟩, hp7⟩, ⟨⟨ht3, ht4, ht5, ht6⟩, ht7⟩, ⟨⟨ho1, ho2, ho3⟩, ⟨hw1, hw2⟩, hba, hbs⟩, hopsnd, hdj⟩ := hnd
  obtain ⟨dx, nv, h1, h2⟩ := h.ins
  obtain ⟨vs', h3, h4⟩ := h.pr
  have nb : ∀ {x : Addr}, x ∉ A.bs → x ≠ b := fun hx z => hx (z ▸ hbm)
  refine ⟨⟨dx, nv, by rw [upd_ne (nb hr6)]; exact h1, h2.tk k⟩, ⟨vs', by rw [upd_ne (nb hp6)]; exact h3, TdL.tk k _ _ h4⟩, by rw [upd_ne (nb ht6)]; exact h.tw, ?_, h.nd⟩
  rw [hA]
  show OpsOk CO _ (A :: ops) (RS.addP p st.tw)
  rw [ht]
  refine ⟨_, _, rfl, ?_, h6.frame k (.upd fun z => hdj b (by simp [hbm]) b z rfl)⟩
  obtain ⟨dx2, tv, ws, g1, g2, g3⟩ := h5.ins
  refine ⟨⟨dx2, tv, ws, by rw [upd_ne (nb ho3)]; exact g1, by rw [upd_ne (nb hw2)]; exact g2, g3.tk k⟩, by rw [upd_ne (nb hba)]; exact h5.bl, ?_⟩
  have hbk := h5.bk
  have more : ∀ {c : Addr} {l : List Pt}, c = b → BlkOk H c l → BlkOk (upd H b (.lst (vs ++ [v]))) c (l ++ [p]) := fun {c l} e g => by
    subst e
    obtain ⟨us, g1, g2⟩ := g
    rw [hv] at g1
    cases g1
    refine ⟨_, upd_same, ?_⟩
    rw [ePs_map, List.map_append, ← ePs_map]
    exact TdL.append (TdL.tk k _ _ g2) (TdL.one (Td.tk k _ _ hp))
  unfold BlksOk at hbk ⊢
  cases hd : op.dn with
  | none =>
    rw [hd] at hbk
    obtain ⟨c, e, g⟩ := hbk
    rw [e] at hb
    show ∃ b', A.bs = [b'] ∧ BlkOk _ b' (op.cu ++ [p])
    exact ⟨c, e, more (Option.some.inj hb) g⟩
  | some d =>
    rw [hd] at hbk
    obtain ⟨c1, c2, e, g1, g2⟩ := hbk
    rw [e] at hb hbs
    have e2 : c2 = b := Option.some.inj hb
    have hne : c1 ≠ c2 := by
      simp only [List.nodup_cons, List.mem_cons, List.not_mem_nil, or_false] at hbs
      exact hbs.1
    exact ⟨c1, c2, e, g1.frame (upd_ne (e2 ▸ hne)) k, more e2 g2⟩
/-- an else: a block more; H knows c -/
theorem RdOk.els {CR CO : Addr} {H : Hp} {R : RA} {st : Rd} {A : OpA} {ops : List OpA} {op : Op} {tw : List Op} {c : Addr} (h : RdOk CR CO H R st) (hA : R.ops = A :: ops) (ht : st.tw = op :: tw) (hd : op.dn = none) (hc : H c = some (.lst [])) (hn : c ∉ R.cs) :
    RdOk CR CO (upd H A.ba (.lst ((A.bs ++ [c]).map V.ref))) { R with ops := { A with bs := A.bs ++ [c] } :: ops } { st with tw := { op with dn := some op.cu, cu := [] } :: tw } := by
  have hnd := h.nd
  have hop := h.op
  rw [hA, ht] at hop
  obtain ⟨op', tw', e, h5, h6⟩ := hop
  cases e
  have hbc : A.ba ∈ R.cs := by
    rw [RA.cs, hA]
    simp [opsC, OpA.cs]
  have k : TK H (upd H A.ba (.lst ((A.bs ++ [c]).map V.ref))) := h.tkU hbc
  have hn' := hn
  rw [RA.cs, hA] at hnd hn'
  simp only [List.mem_cons, not_or, opsC, List.mem_append, OpA.cs] at hn'
  obtain ⟨n1, n2, n3, ⟨n4, n5, n6, n7⟩, n8⟩ := hn'
  simp only [List.nodup_cons, List.mem_cons, not_or, opsC, List.mem_append, List.nodup_append, OpA.cs] at hnd
  obtain ⟨⟨hr1, hr2, ⟨hr3, hr4, hr5, hr6⟩, hr7⟩, ⟨hp1, ⟨hp3, hp4, hp5, hp6⟩, hp7⟩, ⟨⟨ht3, ht4, ht5, ht6⟩, ht7⟩, ⟨⟨ho1, ho2, ho3⟩, ⟨hw1, hw2⟩, hba, hbs⟩, hopsnd, hdj⟩ := hnd
  obtain ⟨dx, nv, h1, h2⟩ := h.ins
  obtain ⟨vs', h3, h4⟩ := h.pr
  obtain ⟨dx2, tv, ws, g1, g2, g3⟩ := h5.ins
  have htw := h.tw
  refine ⟨⟨dx, nv, by rw [upd_ne hr5]; exact h1, h2.tk k⟩, ⟨vs', by rw [upd_ne hp5]; exact h3, TdL.tk k _ _ h4⟩, by rw [upd_ne ht5, htw, hA]; rfl, ⟨_, _, rfl, ⟨⟨dx2, tv, ws, by rw [upd_ne ho2]; exact g1, by rw [upd_ne hw1]; exact g2, g3.tk k⟩, upd_same, ?_⟩, h6.frame k (.upd fun z => hdj A.ba (by simp) A.ba z rfl)⟩, ?_⟩
  · have hbk := h5.bk
    unfold BlksOk at hbk
    rw [hd] at hbk
    obtain ⟨b, e, g⟩ := hbk
    show ∃ b' c', A.bs ++ [c] = [b', c'] ∧ _
    rw [e] at hba hbs n7 k ⊢
    refine ⟨b, c, rfl, g.frame (upd_ne fun z => hba (by simp [z])) k, [], ?_, rfl⟩
    rw [upd_ne n6]
    exact hc
  · show (R.r :: R.pa :: R.ta :: ((A.o :: A.wa :: A.ba :: (A.bs ++ [c])) ++ opsC ops)).Nodup
    simp only [List.nodup_cons, List.mem_cons, not_or, List.mem_append, List.nodup_append, List.not_mem_nil, or_false]
    refine ⟨⟨hr1, hr2, ⟨hr3, hr4, hr5, hr6, Ne.symm n1⟩, hr7⟩, ⟨hp1, ⟨hp3, hp4, hp5, hp6, Ne.symm n2⟩, hp7⟩, ⟨⟨ht3, ht4, ht5, ht6, Ne.symm n3⟩, ht7⟩, ⟨⟨ho1, ho2, ho3, Ne.symm n4⟩, ⟨hw1, hw2, Ne.symm n5⟩, ⟨hba, Ne.symm n6⟩, hbs, ⟨not_false, List.nodup_nil⟩, fun a ha b hb => ?_⟩, hopsnd, fun a ha b hb => ?_⟩
    · rw [hb]
      exact fun z => n7 (z ▸ ha)
    · rcases ha with ha | ha | ha | ha | ha
      · exact hdj a (by simp [ha]) b hb
      · exact hdj a (by simp [ha]) b hb
      · exact hdj a (by simp [ha]) b hb
      · exact hdj a (by simp [ha]) b hb
      · rw [ha]
        exact fun z => n8 (z ▸ hb)
end RS
end
section
set_option Elab.async false
set_option linter.all false
set_option maxRecDepth 100000
set_option maxHeartbeats 4000000
/-! W11: a reader's small methods. -/
namespace RS
open PySem L2 TL Evl
theorem pg_tupK {X : Cx} {K : PySem.W.Frag} {es : List Expr} {k : Nat} {t : TGs} {n : Nat} {pos : Pos} (hK : X.K = K) (hc : X.calm = true) (h : PGs X es t)
    (hn : (assignEach es X.env).length = n := by rfl) (hst : (assignEach es X.env).findIdx? (·.1) = none := by rfl) : PG X (.Tuple es k pos) (gTup K n t) := by
  subst hK
  exact pg_tup hc h hn hst
theorem call_tuple_ofK {X : Cx} {K : PySem.W.Frag} (hK : X.K = K) : CallR X (.type "tuple") (fun xs H Q => ∃ p ys, xs = [.ref p] ∧ ((SqL K H p ys ∧ ∀ l, H l = none → Q (.ref l) (upd H l (.tup ys))) ∨ (SqT K H p ys ∧ Q (.ref p) H))) := by
  subst hK
  exact call_tuple_of
section
variable {K : PySem.W.Frag} {σ : L2.St} {H : Hp} {to te ti ta tb : TE} {tA : TA} {D : Ends} {tz tu : TS} {t : TT}
theorem wlen {wl : Addr} {ws : List Str} (h : Ev te σ H (.ref wl)) (hw : H wl = some (.lst (ws.map V.str))) : Ev (tCB (rLenS K) (tCons te tNil)) σ H (.int (ws.length : Nat)) := by
  have := ev_len (K := K) h (sq_of hw)
  rw [List.length_map] at this
  exact this
theorem wat {wl : Addr} {ws : List Str} {i : Nat} {x : Str} (h : Ev te σ H (.ref wl)) (hw : H wl = some (.lst (ws.map V.str))) (hi : Ev ti σ H (.int i)) (hx : ws[i]? = some x) : Ev (tOp (rIxL K) te ti) σ H (.str x) := by
  refine ev_op h hi (rv_ixL (sq_of hw) (atI_nat ?_))
  rw [List.getElem?_map, hx]
  rfl
/-- a new list held by a new value -/
theorem fresh_ne {H : Hp} {a b : Addr} {o : HO} (h : H a = some o) (n : H b = none) : b ≠ a := fun z => by
  rw [z, h] at n
  cases n
end
def spOpenI (C : Addr) : Sp := fun vs H Q _ => ∃ (o dx wa : Addr) (tv : V), vs = [.ref o, .ref wa, tv] ∧ H o = some (.ins C dx []) ∧ ∀ (ba b0 : Addr) H', (∀ b u, b ≠ o → H b = some u → H' b = some u) → H' o = some (.ins C dx (opF wa tv ba)) → H' ba = some (.lst [.ref b0]) → H' b0 = some (.lst []) → H ba = none → H b0 = none → ba ≠ b0 → Q .non H'
def spReaderI (CR CO : Addr) : Sp := fun vs H Q _ => ∃ (r dx : Addr), vs = [.ref r] ∧ H r = some (.ins CR dx []) ∧ ∀ (R : RA) H', R.r = r → (∀ b u, b ≠ r → H b = some u → H' b = some u) → RdOk CR CO H' R rd0 → (∀ c ∈ R.cs, c = r ∨ H c = none) → Q .non H'
section
variable {P : Program} {w : World} {K : PySem.W.Frag} {mg : Str → Option Value} {base : Heap} {a : Ads}
theorem b_Open (T : Txt K mg w a) : MakG CX0 P w K mg base 1 "Open" a.cO (spOpenI a.cO) [] ∧ MakG CX0 P w K mg base 1 "Open" a.cO (spOpenI a.cO) [.non] := by
  obtain ⟨f, fd, D, hm⟩ := T.m_Open___init__
  have F : FnOk P w K mg base CX0 1 f fd ["self", "words", "test"] (spOpenI a.cO) := by
    refine D.ok sc_Open___init__ (fun vs H Q E h => ?_) (fun cdv A outer s H vs Q E hr h => ⟨_, PSs.nox ((pss_cons (ps_fld (pv 0) (pv 1) rfl)
      (pss_cons (ps_fld (pv 0) (pv 2) rfl)
      (pss_one (ps_fld (pv 0) (pe_lst (pa_cons (pe_lst pa_nil) pa_nil)) rfl))))), ?_⟩)
    · obtain ⟨o, dx, wa, tv, rfl, _⟩ := h
      rfl
    · obtain ⟨o, dx, wa, tv, rfl, ho, k⟩ := h
      refine ⟨_, rfl, _, rfl, o, a.cO, dx, [], rfl, ho, T.cl_Open, T.n_Open_words, by decide, ?_⟩
      refine ⟨_, rfl, _, rfl, o, a.cO, dx, _, rfl, upd_same, T.cl_Open, T.n_Open_test, by show 1 < 1000; decide, ?_⟩
      refine ⟨Nat.zero_le _, fun b0 hb0 => ⟨by show 1 ≤ sizeLine; exact sz_of (by decide), fun ba hba => ?_⟩⟩
      have n0 : b0 ≠ o := fresh_ne upd_same hb0
      have n1 : ba ≠ b0 := fresh_ne upd_same hba
      rw [upd_ne n1] at hba
      have n2 : ba ≠ o := fresh_ne upd_same hba
      rw [upd_ne n2, upd_ne n2] at hba
      rw [upd_ne n0, upd_ne n0] at hb0
      refine ⟨_, rfl, o, a.cO, dx, _, rfl, by rw [upd_ne (Ne.symm n2), upd_ne (Ne.symm n0)]; exact upd_same, T.cl_Open, T.n_Open_blocks, by show 2 < 1000; decide, ?_⟩
      refine k ba b0 _ (fun b u hb hu => ?_) upd_same ?_ ?_ hba hb0 n1
      · have m1 : b ≠ ba := ne_of_none hu hba
        have m2 : b ≠ b0 := ne_of_none hu hb0
        rw [upd_ne hb, upd_ne m1, upd_ne m2, upd_ne hb, upd_ne hb]
        exact hu
      · rw [upd_ne n2, upd_same]
      · rw [upd_ne n0, upd_ne (Ne.symm n1), upd_same]
  obtain ⟨ds0, v0, b0⟩ := D.binds1 (ps := ["self", "words", "test"]) 3 1 (by simp) rfl fun _ _ _ _ _ _ _ us its hu hi => match us, its, hu, hi with | [_, _, _], [_], _, _ => ⟨_, rfl, rfl⟩
  obtain ⟨ds1, v1, b1⟩ := D.binds1 (ps := ["self", "words", "test"]) 2 0 (by simp) rfl fun _ _ _ _ _ _ _ us its hu hi => match us, its, hu, hi with | [_, _], [_], _, _ => ⟨_, rfl, rfl⟩
  exact ⟨⟨f, fd, _, ds0, ⟨T.mk_Open, hm.at_, hm.fn, T.kp_Open⟩, F, T.c_Open, b0, v0⟩, ⟨f, fd, _, ds1, ⟨T.mk_Open, hm.at_, hm.fn, T.kp_Open⟩, F, T.c_Open, b1, v1⟩⟩
/-- Open(words, test): a new open part -/
theorem a_open {σ : L2.St} {H : Hp} {C : Addr} {dvs vs : List V} {E : XK} {tA : TA} {Q : VK} {wa : Addr} {tv : V} (h : EvA tA σ H vs) (hv : vs ++ dvs = [.ref wa, tv])
    (k : ∀ (o ba b0 dx : Addr) H1 H', Ex H H1 → Ex H1 H' → H1 o = none → H1 ba = none → H1 b0 = none → o ≠ ba → o ≠ b0 → ba ≠ b0 → H' o = some (.ins C dx (opF wa tv ba)) → H' ba = some (.lst [.ref b0]) → H' b0 = some (.lst []) → Q (.ref o) H') : tMake C (spOpenI C) dvs E tA σ H Q :=
  h H (Ex.refl H) _ fun H1 e1 o dx ho hdx hne => by
    refine ⟨o, dx, wa, tv, by rw [hv], upd_same, fun ba b0 H' hk h1 h2 h3 n1 n2 n3 => ⟨rfl, ?_⟩⟩
    have q1 : ba ≠ o := fresh_ne upd_same n1
    have q2 : b0 ≠ o := fresh_ne upd_same n2
    have r1 : ba ≠ dx := fun z => by
      rw [z, upd_ne hne, upd_same] at n1
      cases n1
    have r2 : b0 ≠ dx := fun z => by
      rw [z, upd_ne hne, upd_same] at n2
      cases n2
    rw [upd_ne q1, upd_ne r1] at n1
    rw [upd_ne q2, upd_ne r2] at n2
    refine k o ba b0 dx H1 H' e1 (fun b u hu => ?_) ho n1 n2 (Ne.symm q1) (Ne.symm q2) n3 h1 h2 h3
    have m1 : b ≠ o := ne_of_none hu ho
    have m2 : b ≠ dx := ne_of_none hu hdx
    exact hk b u m1 (by rw [upd_ne m1, upd_ne m2]; exact hu)
theorem c_Reader (T : Txt K mg w a) : MakG CX0 P w K mg base 3 "Reader" a.cR (spReaderI a.cR a.cO) [] := by
  have K_Open_d : MakG CX0 P w K mg base 1 "Open" a.cO (spOpenI a.cO) [.non] := (b_Open T).2
  obtain ⟨f, fd, D, hm⟩ := T.m_Reader___init__
  refine ⟨f, fd, _, [], ⟨T.mk_Reader, hm.at_, hm.fn, T.kp_Reader⟩, D.ok sc_Reader___init__ (fun vs H Q E h => ?_) (fun cdv A outer s H vs Q E hr h => ⟨_, PSs.nox ((pss_cons (ps_fld (pv 0) pe_non rfl)
      (pss_cons (ps_fld (pv 0) (pe_lst pa_nil) rfl)
      (pss_cons (ps_fld (pv 0) (pe_lst (pa_cons (pe_k K_Open_d hr (by omega) (by rfl) (pa_cons (pe_lst (pa_cons pe_str pa_nil)) pa_nil)) pa_nil)) rfl)
      (pss_cons (ps_fld (pv 0) pe_int rfl)
      (pss_one (ps_fld (pv 0) pe_bl rfl))))))), ?_⟩), T.c_Reader, D.bindsN (fun _ _ _ _ _ _ us hl => match us, hl with | [_], _ => rfl), .nil⟩
  · obtain ⟨r, dx, rfl, _⟩ := h
    rfl
  · obtain ⟨r, dx, rfl, hr0, k⟩ := h
    refine ⟨_, rfl, r, a.cR, dx, [], rfl, hr0, T.cl_Reader, T.n_Reader_names, by decide, ?_⟩
    refine ⟨Nat.zero_le _, fun pa hpa => ?_⟩
    have p1 : pa ≠ r := fresh_ne upd_same hpa
    have hpa' := hpa
    rw [upd_ne p1] at hpa'
    refine ⟨_, rfl, r, a.cR, dx, _, rfl, by rw [upd_ne (Ne.symm p1)]; exact upd_same, T.cl_Reader, T.n_Reader_procedures, by show 1 < 1000; decide, ?_⟩
    generalize hH1 : upd (upd (upd H r (HO.ins a.cR dx (putF "names" V.non []))) pa (HO.lst [])) r (HO.ins a.cR dx (putF "procedures" (V.ref pa) (putF "names" V.non []))) = H1
    have k1 : H1 r = some (.ins a.cR dx ([("names", .non), ("procedures", .ref pa)] : List (Str × V))) := by rw [← hH1]; exact upd_same
    have k2 : H1 pa = some (.lst []) := by rw [← hH1, upd_ne p1, upd_same]
    have k3 : ∀ b u, b ≠ r → H b = some u → H1 b = some u := fun b u hb hu => by
      rw [← hH1, upd_ne hb, upd_ne (ne_of_none hu hpa'), upd_ne hb]
      exact hu
    have k4 : ∀ b, H1 b = none → b ≠ r ∧ H b = none := fun b hb => by
      have n1 : b ≠ r := fresh_ne k1 hb
      have n2 : b ≠ pa := fresh_ne k2 hb
      refine ⟨n1, ?_⟩
      rw [← hH1, upd_ne n1, upd_ne n2, upd_ne n1] at hb
      exact hb
    refine ⟨by show 1 ≤ sizeLine; exact sz_of (by decide), fun wa hwa => ?_⟩
    have e1 : Ex H1 (upd H1 wa (.lst [.str "program"])) := Ex.new hwa
    refine ?_
    intro o dxo ho hdxo hne
    refine ⟨o, dxo, wa, .non, rfl, upd_same, fun ba b0 H2 hk h1 h2 h3 n1 n2 n3 => ⟨rfl, by show 1 ≤ sizeLine; exact sz_of (by decide), fun ta hta => ?_⟩⟩
    have q1 : ba ≠ o := fresh_ne upd_same n1
    have q2 : b0 ≠ o := fresh_ne upd_same n2
    have r1 : ba ≠ dxo := fun z => by
      rw [z, upd_ne hne, upd_same] at n1
      cases n1
    have r2 : b0 ≠ dxo := fun z => by
      rw [z, upd_ne hne, upd_same] at n2
      cases n2
    rw [upd_ne q1, upd_ne r1] at n1
    rw [upd_ne q2, upd_ne r2] at n2
    have w1 : ba ≠ wa := fresh_ne upd_same n1
    have w2 : b0 ≠ wa := fresh_ne upd_same n2
    have w3 : o ≠ wa := fresh_ne upd_same ho
    rw [upd_ne w1] at n1
    rw [upd_ne w2] at n2
    have ho' := ho
    rw [upd_ne w3] at ho'
    have keep : ∀ b u, upd H1 wa (.lst [.str "program"]) b = some u → H2 b = some u := fun b u hu => by
      have m1 : b ≠ o := ne_of_none hu ho
      have m2 : b ≠ dxo := ne_of_none hu hdxo
      exact hk b u m1 (by rw [upd_ne m1, upd_ne m2]; exact hu)
    have g1 := keep r _ (e1 _ _ k1)
    have g2 := keep pa _ (e1 _ _ k2)
    have g3 := keep wa _ upd_same
    have t1 : ta ≠ r := fresh_ne g1 hta
    have t2 : ta ≠ pa := fresh_ne g2 hta
    have t3 : ta ≠ wa := fresh_ne g3 hta
    have t4 : ta ≠ o := fresh_ne h1 hta
    have t5 : ta ≠ ba := fresh_ne h2 hta
    have t6 : ta ≠ b0 := fresh_ne h3 hta
    have x1 := k4 wa hwa
    have x2 := k4 o ho'
    have x3 := k4 ba n1
    have x4 := k4 b0 n2
    have y1 : wa ≠ pa := fresh_ne k2 hwa
    have y2 : o ≠ pa := fresh_ne k2 ho'
    have y3 : ba ≠ pa := fresh_ne k2 n1
    have y4 : b0 ≠ pa := fresh_ne k2 n2
    have htaH : H ta = none := by
      cases hh : H ta with
      | none => rfl
      | some u =>
        have := keep ta u (e1 _ _ (k3 ta u t1 hh))
        rw [this] at hta
        cases hta
    refine ⟨_, rfl, r, a.cR, dx, _, rfl, by rw [upd_ne (Ne.symm t1)]; exact g1, T.cl_Reader, T.n_Reader_tower, by show 2 < 1000; decide, ?_⟩
    refine ⟨_, rfl, r, a.cR, dx, _, rfl, upd_same, T.cl_Reader, T.n_Reader_parts, by show 3 < 1000; decide, ?_⟩
    refine ⟨_, rfl, r, a.cR, dx, _, rfl, upd_same, T.cl_Reader, T.n_Reader_has_begun, by show 4 < 1000; decide, ?_⟩
    refine k ⟨r, pa, ta, [⟨o, wa, ba, [b0]⟩]⟩ _ rfl (fun b u hb hu => ?_) ⟨⟨dx, .non, upd_same, rfl⟩, ⟨[], ?_, rfl⟩, ?_, ⟨_, [], rfl, ⟨⟨dxo, .non, (["program"] : List Str), ?_, ?_, rfl⟩, ?_, ?_⟩, rfl⟩, ?_⟩ ?_
    · have m1 : b ≠ ta := fun z => by
        rw [z, htaH] at hu
        cases hu
      rw [upd_ne hb, upd_ne hb, upd_ne hb, upd_ne m1]
      exact keep b u (e1 _ _ (k3 b u hb hu))
    · rw [upd_ne p1, upd_ne p1, upd_ne p1, upd_ne (Ne.symm t2)]
      exact g2
    · rw [upd_ne t1, upd_ne t1, upd_ne t1, upd_same]
      rfl
    · rw [upd_ne x2.1, upd_ne x2.1, upd_ne x2.1, upd_ne (Ne.symm t4)]
      exact h1
    · rw [upd_ne x1.1, upd_ne x1.1, upd_ne x1.1, upd_ne (Ne.symm t3)]
      exact g3
    · rw [upd_ne x3.1, upd_ne x3.1, upd_ne x3.1, upd_ne (Ne.symm t5)]
      exact h2
    · refine ⟨b0, rfl, [], ?_, rfl⟩
      rw [upd_ne x4.1, upd_ne x4.1, upd_ne x4.1, upd_ne (Ne.symm t6)]
      exact h3
    · show ([r, pa, ta, o, wa, ba, b0] : List Addr).Nodup
      simp only [List.nodup_cons, List.mem_cons, not_or, List.not_mem_nil, or_false, not_false_eq_true, and_true, List.nodup_nil]
      exact ⟨⟨Ne.symm p1, Ne.symm t1, Ne.symm x2.1, Ne.symm x1.1, Ne.symm x3.1, Ne.symm x4.1⟩, ⟨Ne.symm t2, Ne.symm y2, Ne.symm y1, Ne.symm y3, Ne.symm y4⟩, ⟨t4, t3, t5, t6⟩, ⟨w3, Ne.symm q1, Ne.symm q2⟩, ⟨Ne.symm w1, Ne.symm w2⟩, n3⟩
    · intro c hc
      simp only [RA.cs, opsC, OpA.cs, List.mem_cons, List.not_mem_nil, or_false, List.append_nil] at hc
      rcases hc with rfl | rfl | rfl | rfl | rfl | rfl | rfl
      · exact .inl rfl
      · exact .inr hpa'
      · exact .inr htaH
      · exact .inr x2.2
      · exact .inr x1.2
      · exact .inr x3.2
      · exact .inr x4.2
/-! ### what the reader's fields tell -/
theorem rd_fld {H : Hp} {R : RA} {st : Rd} (h : RdOk a.cR a.cO H R st) : ∃ dx nv, H R.r = some (.ins a.cR dx (rdF nv R.pa R.ta (st.parts : Nat) st.begun)) ∧ NmOk H st.names nv := h.ins
def spRFail (CR CL : Addr) : Sp := fun vs H Q E => ∃ (r : Addr) (l w : Int), vs = [.ref r, .int l, .int w] ∧ RaisBL CL l w H E
theorem c_RFail (T : Txt K mg w a) : MetG (CXX P w) P w K mg base 3 a.cR "fail" (spRFail a.cR a.cBL) [] := by
  have X_BadLine : OexG P w K mg base 1 "BadLine" a.cBL (spBLI a.cBL) [] := c_BadLine T
  obtain ⟨f, fd, D, hm⟩ := T.m_Reader_fail
  refine ⟨f, fd, _, [], T.cl_Reader, hm, D.ok sc_Reader_fail (fun vs H Q E h => ?_) (fun cdv A outer s H vs Q E hr h => ⟨_, (pss_one (ps_raise rfl (takes_of rfl rfl rfl rfl) (pmk_oexG X_BadLine hr (by omega) (by rfl) (pa_cons (pv 1) (pa_cons (pv 2) pa_nil))))), ?_⟩), D.bindsN (fun _ _ _ _ _ _ us hl => match us, hl with | [_, _, _], _ => rfl), .nil⟩
  · obtain ⟨r, l, w, rfl, _⟩ := h
    rfl
  · obtain ⟨r, l, w, rfl, k⟩ := h
    exact s_raiseBL (ea_cons (ev_var rfl) (ea_cons (ev_var rfl) ea_nil)) k
/-- r has no method in its fields -/
def InsR (C : Addr) (H : Hp) (r : Addr) : Prop := ∃ dx nv pa ta n b, H r = some (.ins C dx (rdF nv pa ta n b))
theorem InsR.ex {C : Addr} {H H' : Hp} {r : Addr} (e : Ex H H') (h : InsR C H r) : InsR C H' r := by
  obtain ⟨dx, nv, pa, ta, n, b, h⟩ := h
  exact ⟨dx, nv, pa, ta, n, b, e _ _ h⟩
theorem RdOk.insR {CR CO : Addr} {H : Hp} {R : RA} {st : Rd} (h : RdOk CR CO H R st) : InsR CR H R.r := by
  obtain ⟨dx, nv, h1, h2⟩ := h.ins
  exact ⟨dx, nv, _, _, _, _, h1⟩
/-- self.fail(l, w) -/
theorem a_rfail {σ : L2.St} {H : Hp} {to : TE} {tA : TA} {r C CL : Addr} {l w' : Int} {E : XK} (h : Ev to σ H (.ref r)) (hr : InsR C H r) (ha : EvA tA σ H [.int l, .int w']) (k : RaisBL CL l w' H E) : ∀ Q : VK, tMeth C "fail" (spRFail C CL) [] E to tA σ H Q := fun Q => by
  obtain ⟨dx, nv, pa, ta, n, b, hr⟩ := hr
  exact a_meth h hr rfl ha fun H1 e1 => ⟨r, l, w', rfl, k.mono e1⟩
/-- nothing or an error -/
def ResU (CL : Addr) (r : Except Nat Unit) (line : Int) (H : Hp) (Q : VK) (E : XK) : Prop := match r with
  | .ok _ => RetV .non H Q
  | .error e => RaisBL CL line ((e : Nat) : Int) H E
def spNeedSize (C CL : Addr) : Sp := fun vs H Q E => ∃ (r wl : Addr) (ws : List Str) (line : Int) (n : Nat), vs = [.ref r, .int line, .ref wl, .int n] ∧ InsR C H r ∧ H wl = some (.lst (ws.map V.str)) ∧ ResU CL (needSize ws n ()) line H Q E
theorem c_NeedSize (T : Txt K mg w a) : MetG (CXX P w) P w K mg base 4 a.cR "need_size" (spNeedSize a.cR a.cBL) [] := by
  have M_Reader_fail : MetG (CXX P w) P w K mg base 3 a.cR "fail" (spRFail a.cR a.cBL) [] := c_RFail T
  obtain ⟨f, fd, D, hm⟩ := T.m_Reader_need_size
  refine ⟨f, fd, _, [], T.cl_Reader, hm, D.ok sc_Reader_need_size (fun vs H Q E h => ?_) (fun cdv A outer s H vs Q E hr h => ⟨_, (pss_cons (ps_if (pt_cmpR op_lt (pe_callB call_len_seq (by rfl) T.b_len (by decide +kernel) (pa_cons (pv 2) pa_nil)) (pv 3) (nomark _)) (pss_one (ps_expr (pe_mX M_Reader_fail hr (by omega) (passes_call (takes_of rfl rfl rfl rfl) (fun _ _ _ _ h => h)) (pv 0) (pa_cons (pv 1) (pa_cons (pe_op op_add (pe_callB call_len_seq (by rfl) T.b_len (by decide +kernel) (pa_cons (pv 2) pa_nil)) pe_int) pa_nil))))) pss_nil)
      (pss_one (ps_if (pt_cmpR op_gt (pe_callB call_len_seq (by rfl) T.b_len (by decide +kernel) (pa_cons (pv 2) pa_nil)) (pv 3) (nomark _)) (pss_one (ps_expr (pe_mX M_Reader_fail hr (by omega) (passes_call (takes_of rfl rfl rfl rfl) (fun _ _ _ _ h => h)) (pv 0) (pa_cons (pv 1) (pa_cons (pe_op op_add (pv 3) pe_int) pa_nil))))) pss_nil))), ?_⟩), D.bindsN (fun _ _ _ _ _ _ us hl => match us, hl with | [_, _, _, _], _ => rfl), .nil⟩
  · obtain ⟨r, wl, ws, line, n, rfl, _⟩ := h
    rfl
  · obtain ⟨r, wl, ws, line, n, rfl, hi, hw, k⟩ := h
    unfold needSize at k
    refine q_when (b := decide (ws.length < n)) (et_is (et_test (ev_op (wlen (ev_var rfl) hw) (ev_var rfl) rv_I0)) (by
        by_cases h : ws.length < n
        · rw [decide_eq_true h]
          exact decide_eq_true (by omega)
        · rw [decide_eq_false h]
          exact decide_eq_false (by omega))) (fun h H1 e1 => ?_) (fun h H1 e1 => ?_)
    · rw [if_pos (of_decide_eq_true h)] at k
      refine s_out (a_rfail (ev_var rfl) (hi.ex e1) (ea_cons (ev_var rfl) (ea_cons (ev_op (wlen (ev_var rfl) (e1 _ _ hw)) ev_c rv_I0) ea_nil)) ?_)
      exact RaisBL.mono e1 k
    · rw [if_neg (of_decide_eq_false h)] at k
      refine s_when (b := decide (n < ws.length)) (et_is (et_test (ev_op (wlen (ev_var rfl) (e1 _ _ hw)) (ev_var rfl) rv_I0)) (by
          by_cases h : n < ws.length
          · rw [decide_eq_true h]
            exact decide_eq_true (by omega)
          · rw [decide_eq_false h]
            exact decide_eq_false (by omega))) (fun h H2 e2 => ?_) (fun h H2 e2 => ?_)
      · rw [if_pos (of_decide_eq_true h)] at k
        refine s_out (a_rfail (ev_var rfl) (hi.ex (e1.trans e2)) (ea_cons (ev_var rfl) (ea_cons (ev_op (ev_var rfl) ev_c rv_I0) ea_nil)) ?_)
        exact RaisBL.mono (e1.trans e2) k
      · rw [if_neg (of_decide_eq_false h)] at k
        exact RetV.go k (e1.trans e2)
theorem el_lcLG {K : PySem.W.Frag} {σ : L2.St} {H : Hp} {tt : TT} {te tl' : TE} {g : TG} {vs : List Nat} {a : Addr} {xs : List V} (f : Nat → Bool) (v : Nat → V) (h : Ev tl' σ H (.ref a)) (hx : SqL K H a xs)
    (hs : ∀ Dl H1 i x H', Ex H H1 → xs[i]? = some x → Cw H1 f v Dl i H' → g x (wipe σ vs) H' fun σ2 H2 => wipe σ2 vs = wipe σ vs ∧ tt σ2 H2 fun b H3 =>
      if b = true then te σ2 H3 fun y H4 => ∃ acc, H4 Dl = some (.lst acc) ∧ acc.length < sizeLine ∧ Cw H1 f v Dl (i + 1) (upd H4 Dl (.lst (acc ++ [y]))) else Cw H1 f v Dl (i + 1) H3) :
    EvL (tLc (iList K tl') g tt te vs) σ H (given xs.length f v) := fun H0 e Q q => h H0 e _ fun H1 e1 => ⟨a, rfl, ⟨xs, ex_l (e.trans e1) hx⟩, fun Dl hD =>
  lc_list (xs := xs) (Cw H1 f v Dl) ⟨hD, Ex.new hD, upd_same⟩ (fun i H' _ p => ex_l ((e.trans e1).trans p.2.1) hx) (fun i x H' hi p => hs Dl H1 i x H' (e.trans e1) hi p)
    (fun H' p => q Dl H' (fresh_back e1 p.1) (e1.trans p.2.1) p.2.2)⟩
def spKnown (CR CO : Addr) : Sp := fun vs H Q _ => ∃ (R : RA) (st : Rd), vs = [.ref R.r] ∧ RdOk CR CO H R st ∧ st.procs.length ≤ 30000 ∧ RetL ((known st).map V.str) H Q
theorem c_Known (T : Txt K mg w a) : MetG CX0 P w K mg base 1 a.cR "known" (spKnown a.cR a.cO) [] := by
  obtain ⟨f, fd, D, hm⟩ := T.m_Reader_known
  refine ⟨f, fd, _, [], T.cl_Reader, hm, D.ok sc_Reader_known (fun vs H Q E h => ?_) (fun cdv A outer s H vs Q E hr h => ⟨_, PSs.nox ((pss_one (ps_ret (pe_lc (own := [("name", 1), ("block", 2)]) rfl sc_Reader_known.nd (pi_list (pe_fld (pv 0) rfl)) (blkOk_by (N := ["self", "name", "block"]) (sc := defScope st_Reader_known) (by decide +kernel)) (fun _ _ _ _ _ => (pg_tupK (K := K) (n := 2) rfl (by rfl) (pgs_cons (pg_name (i := 1) sc_Reader_known.nd rfl (Or.inl rfl)) (pgs_cons (pg_name (i := 2) sc_Reader_known.nd rfl (Or.inl rfl)) pgs_nil)))) (fun _ _ _ _ _ => pts_nil) (fun _ _ _ _ _ => (pv 1)))))), ?_⟩), D.bindsN (fun _ _ _ _ _ _ us hl => match us, hl with | [_], _ => rfl), .nil⟩
  · obtain ⟨R, st, rfl, _⟩ := h
    rfl
  · obtain ⟨R, st, rfl, hR, hl, k⟩ := h
    obtain ⟨dx, nv, h1, h2⟩ := hR.ins
    obtain ⟨pvs, h3, h4⟩ := hR.pr
    have hlen : pvs.length = st.procs.length := by rw [h4.len, List.length_map]
    refine s_retL (xs := (known st).map V.str) ?_ k
    have eg : given pvs.length (fun _ => true) (fun i => .str ((known st).getD i "")) = (known st).map V.str := by
      have hk : pvs.length = (known st).length := by rw [hlen, known, List.length_map]
      rw [given_all, hk, range_get (known st) V.str ""]
    rw [← eg]
    refine el_lcLG (fun _ => true) (fun i => .str ((known st).getD i "")) (ev_fld (ev_var rfl) h1 T.cl_Reader T.n_Reader_procedures rfl) (sq_of h3) fun Dl H1 i x H' e hi p => ?_
    obtain ⟨dt, hdt, htd⟩ := h4.get hi
    rw [List.getElem?_map] at hdt
    cases hq : st.procs[i]? with
    | none =>
      rw [hq] at hdt
      cases hdt
    | some q2 =>
      rw [hq] at hdt
      cases hdt
      obtain ⟨qa, ys, rfl, hqa, w1, s1, rfl, f1, w2, s2, rfl, f2, f3⟩ := htd
      cases (show w1 = .str q2.1 from f1)
      cases (show s2 = [] from f3)
      have ek : (known st).getD i "" = q2.1 := by
        rw [List.getD_eq_getElem?_getD, known, List.getElem?_map, hq]
        rfl
      refine ⟨qa, _, rfl, st_of ((e.trans p.2.1) _ _ hqa), rfl, _, _, rfl, _, _, rfl, rfl, rfl, ?_⟩
      refine cw_turn p (by have := (List.getElem?_eq_some_iff.mp hi).1; omega) (fun H2 _ Q r => r H2 (Ex.refl H2)) fun _ => ?_
      show Ev (tVar 1) _ _ (.str ((known st).getD i ""))
      rw [ek]
      exact ev_var rfl
def spDepth (CR CO : Addr) : Sp := fun vs H Q _ => ∃ (R : RA) (st : Rd), vs = [.ref R.r] ∧ RdOk CR CO H R st ∧ RetV (.int (depthR st.tw : Nat)) H Q
/-- the first word of an open part -/
theorem kd_w0 {H : Hp} {k : Kd} {ws : List Str} {tv : V} (h : KdOk H k ws tv) : ws[0]? = some (match k with | .prog => ("program" : Str) | .to _ => "to" | .iff _ _ => "if" | .whl _ _ => "while" | .rep _ => "repeat") := by
  cases k with
  | prog => rw [show ws = _ from h]; rfl
  | to x => rw [show ws = _ from h]; rfl
  | iff s z =>
    have := h.1
    rw [List.head?_eq_getElem?] at this
    exact this
  | whl s z =>
    have := h.1
    rw [List.head?_eq_getElem?] at this
    exact this
  | rep n =>
    obtain ⟨x, e, _⟩ := h
    rw [e]
    rfl
theorem rev_get {α : Type} (l : List α) (i : Nat) (h : i < l.length) : l.reverse[i]? = l[l.length - 1 - i]? := List.getElem?_reverse h
theorem c_Depth (T : Txt K mg w a) : MetG CX0 P w K mg base 1 a.cR "depth" (spDepth a.cR a.cO) [] := by
  obtain ⟨f, fd, D, hm⟩ := T.m_Reader_depth
  refine ⟨f, fd, _, [], T.cl_Reader, hm, D.ok sc_Reader_depth (fun vs H Q E h => ?_) (fun cdv A outer s H vs Q E hr h => ⟨_, PSs.nox ((pss_one (ps_ret (pe_op op_sub (pe_callB call_len_seq (by rfl) T.b_len (by decide +kernel) (pa_cons (pe_fld (pv 0) rfl) pa_nil)) (pe_ifExp (PW.pt (pw_and (pt_cmpR op_gt (pe_callB call_len_seq (by rfl) T.b_len (by decide +kernel) (pa_cons (pe_fld (pv 0) rfl) pa_nil)) pe_int (nomark _)) (pw_and1 (pt_cmpR op_eq (pe_ix ix_list (pe_fld (pe_ix ix_list (pe_fld (pv 0) rfl) pe_int (fun _ _ => rfl)) rfl) pe_int (fun _ _ => rfl)) pe_str (nomark _))))) pe_int pe_int))))), ?_⟩), D.bindsN (fun _ _ _ _ _ _ us hl => match us, hl with | [_], _ => rfl), .nil⟩
  · obtain ⟨R, st, rfl, _⟩ := h
    rfl
  · obtain ⟨R, st, rfl, hR, k⟩ := h
    obtain ⟨dx, nv, h1, h2⟩ := hR.ins
    have hlen := hR.op.len
    have hl2 : ((R.ops.map fun A => V.ref A.o).reverse).length = st.tw.length := by rw [List.length_reverse, List.length_map, hlen]
    have htl : ∀ H1, Ex H H1 → ∀ (σ : L2.St), σ[0]? = some (some (.ref R.r)) → Ev (tCB (rLenS K) (tCons (tFld K (tVar 0) "tower") tNil)) σ H1 (.int (st.tw.length : Nat)) := fun H1 e σ hs => by
      have := ev_len (K := K) (ev_fld (ev_var hs) (e _ _ h1) T.cl_Reader T.n_Reader_tower rfl) (sq_of (e _ _ hR.tw))
      rw [hl2] at this
      exact this
    have hd : depthR st.tw = st.tw.length - (if hasTo st.tw = true then 1 else 0) := rfl
    have hle : hasTo st.tw = true → 2 ≤ st.tw.length := hasTo_len
    refine s_ret (v := .int (depthR st.tw : Nat)) (ev_is (ev_op (z := .int ((st.tw.length : Nat) - (if hasTo st.tw = true then 1 else 0) : Int)) (htl H (Ex.refl H) _ rfl) (ev_if (b := hasTo st.tw) (et_is (et_and (a := decide (1 < st.tw.length)) (b := hasTo st.tw) (et_is (et_test (ev_op (htl H (Ex.refl H) _ rfl) ev_c rv_I0)) (by
        by_cases h : 1 < st.tw.length
        · rw [decide_eq_true h]
          exact decide_eq_true (by omega)
        · rw [decide_eq_false h]
          exact decide_eq_false (by omega))) (fun h => ?_)) (by
        by_cases h : 1 < st.tw.length
        · rw [decide_eq_true h, Bool.true_and]
        · rw [decide_eq_false h, Bool.false_and]
          cases hh : hasTo st.tw with
          | false => rfl
          | true => exact absurd (hle hh) (by omega))) (fun h => ev_is ev_c (by rw [if_pos h])) (fun h => ev_is ev_c (by rw [if_neg (by rw [h]; exact Bool.false_ne_true)]))) rv_I0) ?_) k
    · have h := of_decide_eq_true h
      have hi : st.tw.length - 2 < R.ops.length := by omega
      obtain ⟨op, ho, hop⟩ := hR.op.get (i := st.tw.length - 2) (List.getElem?_eq_getElem hi)
      obtain ⟨dx2, tv, ws, g1, g2, g3⟩ := hop.ins
      have hw0 := kd_w0 g3
      have hat : ((R.ops.map fun A => V.ref A.o).reverse)[1]? = some (V.ref (R.ops[st.tw.length - 2]).o) := by
        rw [rev_get _ _ (by rw [List.length_map]; omega), List.length_map, List.getElem?_map, hlen]
        have e : st.tw.length - 1 - 1 = st.tw.length - 2 := by omega
        rw [e, List.getElem?_eq_getElem hi]
        rfl
      have hht : hasTo st.tw = op.isTo := by
        unfold hasTo
        have e1 : st.tw.reverse[1]? = some op := by
          rw [rev_get _ _ (by omega), ← ho]
          congr 1
        cases hr : st.tw.reverse with
        | nil =>
          rw [hr] at e1
          cases e1
        | cons x r =>
          cases r with
          | nil =>
            rw [hr] at e1
            cases e1
          | cons y r =>
            rw [hr] at e1
            have : y = op := Option.some.inj e1
            rw [this]
      rw [hht]
      refine et_w (wat (ev_fld (ev_op (ev_fld (ev_var rfl) h1 T.cl_Reader T.n_Reader_tower rfl) ev_c (rv_ixL (sq_of hR.tw) (atI_nat (j := 1) hat))) g1 T.cl_Open T.n_Open_words rfl) g2 ev_c (i := 0) hw0) ?_
      unfold Op.isTo
      cases op.kd with
      | prog => exact (by decide +kernel : decide (("program" : Str) = "to") = false)
      | to x => exact (by decide +kernel : decide (("to" : Str) = "to") = true)
      | iff s z => exact (by decide +kernel : decide (("if" : Str) = "to") = false)
      | whl s z => exact (by decide +kernel : decide (("while" : Str) = "to") = false)
      | rep n => exact (by decide +kernel : decide (("repeat" : Str) = "to") = false)
    · congr 1
      rw [hd]
      cases h : hasTo st.tw with
      | true =>
        have := hle h
        simp only [if_true]
        omega
      | false =>
        simp only [Bool.false_eq_true, if_false]
        omega
end
end RS
end
section
set_option Elab.async false
set_option linter.all false
set_option maxRecDepth 100000
set_option maxHeartbeats 4000000
/-! W12: a line's sum, test, small part. -/
namespace RS
open PySem L2 TL Evl
theorem ResS.mono {CL : Addr} {r : RE} {n : Nat} {line : Int} {H H' : Hp} {Q : VK} {E : XK} (e : Ex H H') (h : ResS CL r n line H Q E) : ResS CL r n line H' Q E :=
  .mk (fun s rest he p v H2 e2 hp hv => h.ok he p v H2 (e.trans e2) hp hv) fun x he => (h.err he).mono e
/-- a value with its data, or an error -/
def ResP {α : Type} (CL : Addr) (enc : α → Dt) (r : Except Nat α) (line : Int) (H : Hp) (Q : VK) (E : XK) : Prop := match r with
  | .ok x => ∀ v H', Ex H H' → Td H' (enc x) v → Q v H'
  | .error e => RaisBL CL line ((e : Nat) : Int) H E
theorem ResP.ok {α : Type} {CL : Addr} {enc : α → Dt} {r : Except Nat α} {line : Int} {H : Hp} {Q : VK} {E : XK} {x : α} (h : ResP CL enc r line H Q E) (e : r = .ok x) : ∀ v H', Ex H H' → Td H' (enc x) v → Q v H' := by
  subst e
  exact h
theorem ResP.err {α : Type} {CL : Addr} {enc : α → Dt} {r : Except Nat α} {line : Int} {H : Hp} {Q : VK} {E : XK} {x : Nat} (h : ResP CL enc r line H Q E) (e : r = .error x) : RaisBL CL line ((x : Nat) : Int) H E := by
  subst e
  exact h
theorem ResP.mk {α : Type} {CL : Addr} {enc : α → Dt} {r : Except Nat α} {line : Int} {H : Hp} {Q : VK} {E : XK} (h1 : ∀ x, r = .ok x → ∀ v H', Ex H H' → Td H' (enc x) v → Q v H') (h2 : ∀ e, r = .error e → RaisBL CL line ((e : Nat) : Int) H E) : ResP CL enc r line H Q E := by
  match r, h1, h2 with
  | .ok s, h1, h2 => exact h1 s rfl
  | .error x, h1, h2 => exact h2 x rfl
section
variable {K : PySem.W.Frag} {σ : L2.St} {H : Hp} {to te ti ta tb : TE} {tA tA0 : TA} {D : Ends} {tz tu : TS} {t : TT}
/-- Sums(names, words, line).whole(i, 0) -/
theorem a_whole {C CL na wl : Addr} {names ws : List Str} {line : Int} {i : Nat} {E : XK} {Q : VK} (h0 : EvA tA0 σ H [.ref na, .ref wl, .int line]) (hn : H na = some (.tup (names.map V.str))) (hw : H wl = some (.lst (ws.map V.str))) (ok : okWs ws) (h : EvA tA σ H [.int i, .int 0]) (hi : i ≤ ws.length)
    (k : ResS CL (whole (oneN names 6) (ws.drop i)) ws.length line H Q E) : tMeth C "whole" (spWhole C CL 6) [] E (tMake C (spSumsI C) [] E0 tA0) tA σ H Q :=
  h0 H (Ex.refl H) _ fun H1 e1 x dx hx hdx hne => ⟨x, dx, _, _, _, rfl, upd_same, fun H2 hk hx2 => ⟨rfl, x, dx, _, rfl, hx2, rfl, by
    have e2 : Ex H1 H2 := fun b u hu => by
      have m1 : b ≠ x := ne_of_none hu hx
      rw [hk b m1, upd_ne m1, upd_ne (ne_of_none hu hdx)]
      exact hu
    refine h H2 (e1.trans e2) _ fun H3 e3 => ?_
    have e13 := (e1.trans e2).trans e3
    exact ⟨x, na, wl, names, ws, line, i, rfl, by decide, ⟨⟨dx, e3 _ _ hx2⟩, e13 _ _ hn, e13 _ _ hw⟩, ok, hi, k.mono e13⟩⟩⟩
theorem el_meth0 {o C dx : Addr} {m : Str} {fs : List (Str × V)} {dvs : List V} {sp : Sp} {E : XK} {xs : List V} (h : Ev to σ H (.ref o)) (ho : H o = some (.ins C dx fs)) (hl : fs.lookup m = none) (k : ∀ H1, Ex H H1 → ∀ Q : VK, RetL xs H1 Q → sp (.ref o :: ([] ++ dvs)) H1 Q E) : EvL (tMeth C m sp dvs E to tNil) σ H xs := fun H0 e Q q =>
  h H0 e _ fun H1 e1 => ⟨o, dx, fs, rfl, e1 _ _ (e _ _ ho), hl, k H1 (e.trans e1) Q fun p H2 hp e2 h2 => q p H2 (fresh_back e1 hp) (e1.trans e2) h2⟩
theorem needSize_cases (ws : List Str) (n : Nat) : (∃ e, ∀ {α : Type} (x : α), needSize ws n x = .error e) ∨ (ws.length = n ∧ ∀ {α : Type} (x : α), needSize ws n x = .ok x) := by
  by_cases h1 : ws.length < n
  · exact .inl ⟨_, fun x => by rw [needSize, if_pos h1]⟩
  · by_cases h2 : n < ws.length
    · exact .inl ⟨_, fun x => by rw [needSize, if_neg h1, if_pos h2]⟩
    · exact .inr ⟨by omega, fun x => by rw [needSize, if_neg h1, if_neg h2]⟩
/-- self.need_size(line, words, n) -/
theorem a_need {r wl C CL : Addr} {ws : List Str} {line : Int} {n : Nat} {E : XK} {Q : VK} (h : Ev to σ H (.ref r)) (hr : InsR C H r) (hw : H wl = some (.lst (ws.map V.str))) (ha : EvA tA σ H [.int line, .ref wl, .int n])
    (k1 : ws.length = n → ∀ H1, Ex H H1 → Q .non H1) (k2 : ∀ e, (∀ {α : Type} (x : α), needSize ws n x = .error e) → RaisBL CL line ((e : Nat) : Int) H E) : tMeth C "need_size" (spNeedSize C CL) [] E to tA σ H Q := by
  have hr' := hr
  obtain ⟨dx, nv, pa, ta, n', b, hr'⟩ := hr'
  refine a_meth h hr' rfl ha fun H1 e1 => ⟨r, wl, ws, line, n, rfl, hr.ex e1, e1 _ _ hw, ?_⟩
  rcases needSize_cases ws n with ⟨e, he⟩ | ⟨hl, he⟩
  · rw [he ()]
    exact (k2 e he).mono e1
  · rw [he ()]
    exact fun H2 e2 => k1 hl H2 (e1.trans e2)
theorem rv_tests {mg : Str → Option Value} {w : World} {a : Ads} (T : Txt K mg w a) (z : Str) : RV (fun x y H Q => ∃ (z : Str) (r : Option Value), x = .str z ∧ y = .ref a.tests ∧ PySem.W.nsIn K a.tests z = some r ∧ Q (.bl (!r.isSome)) H) (.str z) (.ref a.tests) H (.bl (!(tsOf z).isSome)) := fun H1 _ Q q => by
  obtain ⟨r, h1, h2⟩ := T.testsAt z
  refine ⟨z, r, rfl, rfl, h1, ?_⟩
  cases h : tsOf z with
  | none =>
    rw [h] at h2 q
    subst h2
    exact q H1 (Ex.refl H1)
  | some p =>
    rw [h] at h2 q
    obtain ⟨u, rfl, _⟩ := h2
    exact q H1 (Ex.refl H1)
theorem rv_testAt {mg : Str → Option Value} {w : World} {a : Ads} (T : Txt K mg w a) {z : Str} {p : Bool} (hz : tsOf z = some p) : RV (rIxD K w) (.ref a.tests) (.str z) H (.bl p) := fun H1 _ Q q => by
  obtain ⟨r, h1, h2⟩ := T.testsAt z
  rw [hz] at h2
  obtain ⟨u, rfl, hu⟩ := h2
  exact ⟨a.tests, z, _, rfl, rfl, ⟨_, _, u, T.tests.at_, T.tests.lit, h1, hu⟩, q H1 (Ex.refl H1)⟩
end
theorem dec_lt (m n : Nat) : decide ((m : Int) < (n : Int)) = decide (m < n) := by
  by_cases h : m < n
  · rw [decide_eq_true h]
    exact decide_eq_true (by omega)
  · rw [decide_eq_false h]
    exact decide_eq_false (by omega)
theorem dec_le (m n : Nat) : decide ((m : Int) ≤ (n : Int)) = decide (m ≤ n) := by
  by_cases h : m ≤ n
  · rw [decide_eq_true h]
    exact decide_eq_true (by omega)
  · rw [decide_eq_false h]
    exact decide_eq_false (by omega)
def eTz (p : Sm × Bool) : Dt := eT p.1 p.2
def spSumTo (CR CO CL : Addr) : Sp := fun vs H Q E => ∃ (R : RA) (st : Rd) (names : List Str) (wl : Addr) (ws : List Str) (line : Int) (i : Nat), vs = [.ref R.r, .int line, .ref wl, .int i] ∧ RdOk CR CO H R st ∧ st.names = some names ∧ H wl = some (.lst (ws.map V.str)) ∧ okWs ws ∧ i ≤ ws.length ∧ ResP CL eS (sumToEnd names ws i) line H Q E
def spTestOf (CR CO CL : Addr) : Sp := fun vs H Q E => ∃ (R : RA) (st : Rd) (names : List Str) (wl : Addr) (ws : List Str) (line : Int), vs = [.ref R.r, .int line, .ref wl] ∧ RdOk CR CO H R st ∧ st.names = some names ∧ H wl = some (.lst (ws.map V.str)) ∧ okWs ws ∧ 1 ≤ ws.length ∧ ResP CL eTz (testOf names ws) line H Q E
def spSmall (CR CO CL : Addr) : Sp := fun vs H Q E => ∃ (R : RA) (st : Rd) (names : List Str) (wl : Addr) (ws : List Str) (first : Str) (line : Int), vs = [.ref R.r, .int line, .ref wl] ∧ RdOk CR CO H R st ∧ st.names = some names ∧ H wl = some (.lst (ws.map V.str)) ∧ okWs ws ∧ ws[0]? = some first ∧ st.procs.length ≤ 30000 ∧ ResP CL eP (smallPart names (known st) first ws) line H Q E
section
variable {P : Program} {w : World} {K : PySem.W.Frag} {mg : Str → Option Value} {base : Heap} {a : Ads}
theorem RdOk.nms {CR CO : Addr} {H : Hp} {R : RA} {st : Rd} {names : List Str} (h : RdOk CR CO H R st) (hn : st.names = some names) : ∃ dx na, H R.r = some (.ins CR dx (rdF (.ref na) R.pa R.ta (st.parts : Nat) st.begun)) ∧ H na = some (.tup (names.map V.str)) := by
  obtain ⟨dx, nv, h1, h2⟩ := h.ins
  rw [hn] at h2
  obtain ⟨na, rfl, h2⟩ := h2
  exact ⟨dx, na, h1, h2⟩
theorem c_SumTo (T : Txt K mg w a) : MetG (CXX P w) P w K mg base 26 a.cR "sum_to_end" (spSumTo a.cR a.cO a.cBL) [] := by
  have M_Reader_fail : MetG (CXX P w) P w K mg base 3 a.cR "fail" (spRFail a.cR a.cBL) [] := c_RFail T
  have M_Sums_whole : MetG (CXX P w) P w K mg base 25 a.cS "whole" (spWhole a.cS a.cBL 6) [] := c_whole T
  have K_Sums : MakG CX0 P w K mg base 1 "Sums" a.cS (spSumsI a.cS) [] := c_Sums T
  obtain ⟨f, fd, D, hm⟩ := T.m_Reader_sum_to_end
  refine ⟨f, fd, _, [], T.cl_Reader, hm, D.ok sc_Reader_sum_to_end (fun vs H Q E h => ?_) (fun cdv A outer s H vs Q E hr h => ⟨_, (pss_cons (ps_asg (pe_mX M_Sums_whole hr (by omega) (passes_call (takes_of rfl rfl rfl rfl) (fun _ _ _ _ h => h)) (pe_k K_Sums hr (by omega) (by rfl) (pa_cons (pe_fld (pv 0) rfl) (pa_cons (pv 2) (pa_cons (pv 1) pa_nil)))) (pa_cons (pv 3) (pa_cons pe_int pa_nil))) (pg_tup (by rfl) (pgs_cons (pg_name (i := 4) sc_Reader_sum_to_end.nd rfl (Or.inl rfl)) (pgs_cons (pg_name (i := 5) sc_Reader_sum_to_end.nd rfl (Or.inl rfl)) pgs_nil))))
      (pss_cons (ps_if (pt_cmpR op_lt (pv 5) (pe_callB call_len_seq (by rfl) T.b_len (by decide +kernel) (pa_cons (pv 2) pa_nil)) (nomark _)) (pss_one (ps_expr (pe_mX M_Reader_fail hr (by omega) (passes_call (takes_of rfl rfl rfl rfl) (fun _ _ _ _ h => h)) (pv 0) (pa_cons (pv 1) (pa_cons (pe_op op_add (pv 5) pe_int) pa_nil))))) pss_nil)
      (pss_one (ps_ret (pv 4))))), ?_⟩), D.bindsN (fun _ _ _ _ _ _ us hl => match us, hl with | [_, _, _, _], _ => rfl), .nil⟩
  · obtain ⟨R, st, names, wl, ws, line, i, rfl, _⟩ := h
    rfl
  · obtain ⟨R, st, names, wl, ws, line, i, rfl, hR, hn, hw, ok, hi, k⟩ := h
    obtain ⟨dx, na, h1, h2⟩ := hR.nms hn
    refine a_whole (ea_cons (ev_fld (ev_var rfl) h1 T.cl_Reader T.n_Reader_names rfl) (ea_cons (ev_var rfl) (ea_cons (ev_var rfl) ea_nil))) h2 hw ok (ea_cons (ev_var rfl) (ea_cons ev_c ea_nil)) hi (.mk (fun s b he p v H1 e1 hp hv => ?_) fun x he => ?_)
    · obtain ⟨g1, g2, g3⟩ := whole_sfx (one_sfx names 6) he
      have hb : b <:+ ws := List.IsSuffix.trans g1 (List.drop_suffix i ws)
      have hbl := hb.length_le
      refine g_two hp ?_
      unfold sumToEnd at k
      rw [he] at k
      refine q_when (b := decide (ws.length - b.length < ws.length)) (et_is (et_test (ev_op (ev_var rfl) (wlen (ev_var rfl) (e1 _ _ hw)) rv_I0)) (dec_lt _ _)) (fun h H2 e2 => ?_) (fun h H2 e2 => ?_)
      · have h := of_decide_eq_true h
        have hbn : b ≠ [] := fun z => by
          rw [z, List.length_nil] at h
          omega
        have k' := k.err (x := ws.length - b.length + 1) (if_neg hbn)
        refine s_out (a_rfail (ev_var rfl) (hR.insR.ex (e1.trans e2)) (ea_cons (ev_var rfl) (ea_cons (ev_op (ev_var rfl) ev_c rv_I0) ea_nil)) ?_)
        have ee : ((ws.length - b.length + 1 : Nat) : Int) = ((ws.length - b.length : Nat) : Int) + 1 := by omega
        rw [ee] at k'
        exact k'.mono (e1.trans e2)
      · have h := of_decide_eq_false h
        have hbn : b = [] := List.eq_nil_of_length_eq_zero (by omega)
        exact s_ret (ev_var rfl) fun H3 e3 => k.ok (if_pos hbn) v H3 ((e1.trans e2).trans e3) (hv.ex (e2.trans e3))
    · unfold sumToEnd at k
      rw [he] at k
      exact k.err rfl
theorem c_TestOf (T : Txt K mg w a) : MetG (CXX P w) P w K mg base 26 a.cR "test_of" (spTestOf a.cR a.cO a.cBL) [] := by
  have M_Reader_fail : MetG (CXX P w) P w K mg base 3 a.cR "fail" (spRFail a.cR a.cBL) [] := c_RFail T
  have M_Sums_whole : MetG (CXX P w) P w K mg base 25 a.cS "whole" (spWhole a.cS a.cBL 6) [] := c_whole T
  have K_Sums : MakG CX0 P w K mg base 1 "Sums" a.cS (spSumsI a.cS) [] := c_Sums T
  obtain ⟨f, fd, D, hm⟩ := T.m_Reader_test_of
  refine ⟨f, fd, _, [], T.cl_Reader, hm, D.ok sc_Reader_test_of (fun vs H Q E h => ?_) (fun cdv A outer s H vs Q E hr h => ⟨_, (pss_cons (ps_asg (pe_mX M_Sums_whole hr (by omega) (passes_call (takes_of rfl rfl rfl rfl) (fun _ _ _ _ h => h)) (pe_k K_Sums hr (by omega) (by rfl) (pa_cons (pe_fld (pv 0) rfl) (pa_cons (pv 2) (pa_cons (pv 1) pa_nil)))) (pa_cons pe_int (pa_cons pe_int pa_nil))) (pg_tup (by rfl) (pgs_cons (pg_name (i := 3) sc_Reader_test_of.nd rfl (Or.inl rfl)) (pgs_cons (pg_name (i := 4) sc_Reader_test_of.nd rfl (Or.inl rfl)) pgs_nil))))
      (pss_cons (ps_if (PW.pt (pw_or (pt_cmpR op_ge (pv 4) (pe_callB call_len_seq (by rfl) T.b_len (by decide +kernel) (pa_cons (pv 2) pa_nil)) (nomark _)) (pw_or1 (pt_cmpR (op_notIn_kd T.tests) (pe_ix ix_list (pv 2) (pv 4) (fun _ _ => rfl)) (C8.pe_gc (by rfl) T.g_TESTS) (by rfl))))) (pss_one (ps_expr (pe_mX M_Reader_fail hr (by omega) (passes_call (takes_of rfl rfl rfl rfl) (fun _ _ _ _ h => h)) (pv 0) (pa_cons (pv 1) (pa_cons (pe_op op_add (pv 4) pe_int) pa_nil))))) pss_nil)
      (pss_cons (ps_if (PW.pt (pw_or (pt_cmpR op_ge (pe_op op_add (pv 4) pe_int) (pe_callB call_len_seq (by rfl) T.b_len (by decide +kernel) (pa_cons (pv 2) pa_nil)) (nomark _)) (pw_or1 (pt_cmpR op_ne (pe_ix ix_list (pv 2) (pe_op op_add (pv 4) pe_int) (fun _ _ => rfl)) pe_str (nomark _))))) (pss_one (ps_expr (pe_mX M_Reader_fail hr (by omega) (passes_call (takes_of rfl rfl rfl rfl) (fun _ _ _ _ h => h)) (pv 0) (pa_cons (pv 1) (pa_cons (pe_op op_add (pv 4) pe_int) pa_nil))))) pss_nil)
      (pss_cons (ps_if (pt_cmpR op_lt (pe_op op_add (pv 4) pe_int) (pe_callB call_len_seq (by rfl) T.b_len (by decide +kernel) (pa_cons (pv 2) pa_nil)) (nomark _)) (pss_one (ps_expr (pe_mX M_Reader_fail hr (by omega) (passes_call (takes_of rfl rfl rfl rfl) (fun _ _ _ _ h => h)) (pv 0) (pa_cons (pv 1) (pa_cons (pe_op op_add (pv 4) pe_int) pa_nil))))) pss_nil)
      (pss_one (ps_ret (pe_tup (pa_cons (pv 3) (pa_cons (pe_ix ix_kdict (C8.pe_gc (by rfl) T.g_TESTS) (pe_ix ix_list (pv 2) (pv 4) (fun _ _ => rfl)) (fun _ _ => rfl)) pa_nil))))))))), ?_⟩), D.bindsN (fun _ _ _ _ _ _ us hl => match us, hl with | [_, _, _], _ => rfl), .nil⟩
  · obtain ⟨R, st, names, wl, ws, line, rfl, _⟩ := h
    rfl
  · obtain ⟨R, st, names, wl, ws, line, rfl, hR, hn, hw, ok, hi, k⟩ := h
    obtain ⟨dx, na, h1, h2⟩ := hR.nms hn
    refine a_whole (i := 1) (ea_cons (ev_fld (ev_var rfl) h1 T.cl_Reader T.n_Reader_names rfl) (ea_cons (ev_var rfl) (ea_cons (ev_var rfl) ea_nil))) h2 hw ok (ea_cons ev_c (ea_cons ev_c ea_nil)) hi (.mk (fun s b he p v H1 e1 hp hv => ?_) fun x he => ?_)
    · obtain ⟨g1, g2, g3⟩ := whole_sfx (one_sfx names 6) he
      have hb : b <:+ ws := List.IsSuffix.trans g1 (List.drop_suffix 1 ws)
      have hbl := hb.length_le
      refine g_two hp ?_
      unfold testOf at k
      rw [he] at k
      have out : ∀ (x : Nat) (j : Int) (H2 : Hp), Ex H1 H2 → (∀ (r : Except Nat (Sm × Bool)), r = .error x → ResP a.cBL eTz r line H Q E → j = (x : Int) → RaisBL a.cBL line j H2 E) := fun x j H2 e2 r hr kk hj => by
        rw [hj]
        exact (kk.err hr).mono (e1.trans e2)
      cases b with
      | nil =>
        refine q_yes (et_or (a := true) (b := false) (et_is (et_test (ev_op (ev_var rfl) (wlen (ev_var rfl) (e1 _ _ hw)) rv_I0)) (decide_eq_true (by rw [List.length_nil]; omega))) fun h => nomatch h) fun H2 e2 => ?_
        refine s_out (a_rfail (ev_var rfl) (hR.insR.ex (e1.trans e2)) (ea_cons (ev_var rfl) (ea_cons (ev_op (ev_var rfl) ev_c rv_I0) ea_nil)) (out _ _ H2 e2 _ rfl k ?_))
        rw [List.length_nil]
        omega
      | cons x r =>
        rw [List.length_cons] at hbl
        dsimp only at k
        refine q_when (b := (false || !(tsOf x).isSome)) (et_or (et_is (et_test (ev_op (ev_var rfl) (wlen (ev_var rfl) (e1 _ _ hw)) rv_I0)) (decide_eq_false (by rw [List.length_cons]; omega))) fun _ => et_test (ev_op (wat (ev_var rfl) (e1 _ _ hw) (ev_var rfl) (sfx_get hb)) ev_c (rv_tests T x))) (fun h H2 e2 => ?_) (fun h H2 e2 => ?_)
        · cases hx : tsOf x with
          | some z =>
            rw [hx] at h
            cases h
          | none =>
            rw [hx] at k
            refine s_out (a_rfail (ev_var rfl) (hR.insR.ex (e1.trans e2)) (ea_cons (ev_var rfl) (ea_cons (ev_op (ev_var rfl) ev_c rv_I0) ea_nil)) (out _ _ H2 e2 _ rfl k ?_))
            rw [List.length_cons]
            omega
        · cases hx : tsOf x with
          | none =>
            rw [hx] at h
            cases h
          | some z =>
            rw [hx] at k
            have e12 := e1.trans e2
            have hrs := sfx_tail hb
            cases r with
            | nil =>
              refine q_yes (et_or (a := true) (b := false) (et_is (et_test (ev_op (ev_op (ev_var rfl) ev_c rv_I0) (wlen (ev_var rfl) (e12 _ _ hw)) rv_I0)) (decide_eq_true (by rw [List.length_cons, List.length_nil]; omega))) fun h => nomatch h) fun H3 e3 => ?_
              refine s_out (a_rfail (ev_var rfl) (hR.insR.ex (e12.trans e3)) (ea_cons (ev_var rfl) (ea_cons (ev_op (ev_var rfl) ev_c rv_I0) ea_nil)) (out _ _ H3 (e2.trans e3) _ rfl k ?_))
              rw [List.length_cons, List.length_nil]
              omega
            | cons y r2 =>
              rw [List.length_cons] at hbl
              have hpos : ((ws.length - (x :: y :: r2).length : Nat) : Int) + 1 = ((ws.length - (r2.length + 1) : Nat) : Int) := by
                rw [List.length_cons, List.length_cons]
                omega
              have hj : Ev (tOp (rI0 fun i j => V.int (i + j)) (tVar 4) (tC (.int 1))) _ H2 (.int ((ws.length - (r2.length + 1) : Nat) : Int)) := ev_is (ev_op (ev_var (σ := (([some (.ref R.r), some (.int line), some (.ref wl), none, none] : L2.St).set 3 (some v)).set 4 (some (.int ((ws.length - (x :: y :: r2).length : Nat) : Int)))) rfl) ev_c rv_I0) (by rw [hpos])
              refine q_when (b := (false || !decide (y = "0"))) (et_or (et_is (et_test (ev_op hj (wlen (ev_var rfl) (e12 _ _ hw)) rv_I0)) (decide_eq_false (by omega))) fun _ => et_test (ev_neS (wat (ev_var rfl) (e12 _ _ hw) hj (sfx_get hrs)) ev_c rfl)) (fun h H3 e3 => ?_) (fun h H3 e3 => ?_)
              · rw [Bool.false_or, Bool.not_eq_true', decide_eq_false_iff_not] at h
                dsimp only at k
                rw [if_neg h] at k
                refine s_out (a_rfail (ev_var rfl) (hR.insR.ex (e12.trans e3)) (ea_cons (ev_var rfl) (ea_cons (ev_op (ev_var rfl) ev_c rv_I0) ea_nil)) (out _ _ H3 (e2.trans e3) _ rfl k ?_))
                rw [List.length_cons, List.length_cons]
                omega
              · rw [Bool.false_or, Bool.not_eq_false', decide_eq_true_eq] at h
                dsimp only at k
                rw [if_pos h] at k
                have e13 := e12.trans e3
                have hc : decide (((ws.length - (x :: y :: r2).length : Nat) : Int) + 2 < (ws.length : Nat)) = decide (r2 ≠ []) := by
                  cases r2 with
                  | nil =>
                    rw [decide_eq_false (p := (([] : List Str) ≠ [])) (by simp)]
                    refine decide_eq_false ?_
                    rw [List.length_cons, List.length_cons, List.length_nil]
                    rw [List.length_nil] at hbl
                    omega
                  | cons z2 r3 =>
                    rw [decide_eq_true (p := (z2 :: r3 ≠ [])) (by simp)]
                    rw [List.length_cons] at hbl
                    refine decide_eq_true ?_
                    rw [List.length_cons, List.length_cons, List.length_cons]
                    omega
                refine q_when (b := decide (r2 ≠ [])) (et_is (et_test (ev_op (ev_op (ev_var rfl) ev_c rv_I0) (wlen (ev_var rfl) (e13 _ _ hw)) rv_I0)) hc) (fun h H4 e4 => ?_) (fun h H4 e4 => ?_)
                · rw [if_neg (of_decide_eq_true h)] at k
                  refine s_out (a_rfail (ev_var rfl) (hR.insR.ex (e13.trans e4)) (ea_cons (ev_var rfl) (ea_cons (ev_op (ev_var rfl) ev_c rv_I0) ea_nil)) (out _ _ H4 ((e2.trans e3).trans e4) _ rfl k ?_))
                  rw [List.length_cons, List.length_cons]
                  omega
                · rw [if_pos (Decidable.of_not_not (of_decide_eq_false h))] at k
                  refine s_retU (eu_tup (ea_cons (ev_var rfl) (ea_cons (ev_op ev_c (wat (ev_var rfl) ((e13.trans e4) _ _ hw) (ev_var rfl) (sfx_get hb)) (rv_testAt T hx)) ea_nil)) (by simp)) fun q H5 hq e5 h5 => k _ H5 ((e13.trans e4).trans e5) ⟨q, _, rfl, h5, _, _, rfl, (hv.ex ((e2.trans e3).trans e4)).ex e5, _, _, rfl, rfl, rfl⟩
    · unfold testOf at k
      rw [he] at k
      exact k.err rfl
end
end RS
end
section
set_option Elab.async false
set_option linter.all false
set_option maxRecDepth 100000
set_option maxHeartbeats 4000000
/-! W13: small_part, take_names. -/
namespace RS
open PySem L2 TL Evl
section
variable {P : Program} {w : World} {K : PySem.W.Frag} {mg : Str → Option Value} {base : Heap} {a : Ads}
theorem q_need {σ : L2.St} {H : Hp} {to : TE} {tA : TA} {D : Ends} {tz : TS} {r wl C CL : Addr} {ws : List Str} {line : Int} {n : Nat} {E : XK} (h : Ev to σ H (.ref r)) (hr : InsR C H r) (hw : H wl = some (.lst (ws.map V.str))) (ha : EvA tA σ H [.int line, .ref wl, .int n])
    (k1 : ws.length = n → ∀ H1, Ex H H1 → tz D σ H1) (k2 : ∀ e, (∀ {α : Type} (x : α), needSize ws n x = .error e) → RaisBL CL line ((e : Nat) : Int) H E) : tSeq (tDrop (tMeth C "need_size" (spNeedSize C CL) [] E to tA)) tz D σ H := a_need h hr hw ha k1 k2
/-- return c, e | return c, e, e' : the last may raise -/
theorem s_tupX2 {σ : L2.St} {H : Hp} {tb : TE} {D : Ends} {c : V} (k : tb σ H fun y H2 => [c, y].length ≤ sizeLine ∧ ∀ p, H2 p = none → D.rt (.ref p) (upd H2 p (.tup [c, y]))) : tRet (tTup (tCons (tC c) (tCons tb tNil))) D σ H := k
theorem s_tupX3 {σ : L2.St} {H : Hp} {ta tb : TE} {D : Ends} {c x : V} (ha : Ev ta σ H x) (k : ∀ H1, Ex H H1 → tb σ H1 fun y H2 => [c, x, y].length ≤ sizeLine ∧ ∀ p, H2 p = none → D.rt (.ref p) (upd H2 p (.tup [c, x, y]))) : tRet (tTup (tCons (tC c) (tCons ta (tCons tb tNil)))) D σ H := ha H (Ex.refl H) _ k
theorem RdOk.ins0 {CR CO : Addr} {H : Hp} {R : RA} {st : Rd} (h : RdOk CR CO H R st) : ∃ dx nv, H R.r = some (.ins CR dx (rdF nv R.pa R.ta (st.parts : Nat) st.begun)) := by
  obtain ⟨dx, nv, h1, h2⟩ := h.ins
  exact ⟨dx, nv, h1⟩
theorem word1_at {ws : List Str} {x : Str} (h : ws[1]? = some x) : word1 ws = x := by
  match ws, h with
  | [_], h => cases h
  | _ :: y :: r, h => exact Option.some.inj h
theorem badIn_at {names ws : List Str} : badIn names ws = (match ws[1]? with | some x => !decide (x ∈ names) | none => false) := by
  match ws with
  | [] => rfl
  | [_] => rfl
  | _ :: y :: r => rfl
theorem get_of_lt {ws : List Str} {i : Nat} (h : i < ws.length) : ∃ x, ws[i]? = some x := ⟨_, List.getElem?_eq_getElem h⟩
theorem c_Small (T : Txt K mg w a) : MetG (CXX P w) P w K mg base 27 a.cR "small_part" (spSmall a.cR a.cO a.cBL) [] := by
  have M_Reader_fail : MetG (CXX P w) P w K mg base 3 a.cR "fail" (spRFail a.cR a.cBL) [] := c_RFail T
  have M_Reader_need_size : MetG (CXX P w) P w K mg base 4 a.cR "need_size" (spNeedSize a.cR a.cBL) [] := c_NeedSize T
  have M_Reader_known : MetG CX0 P w K mg base 1 a.cR "known" (spKnown a.cR a.cO) [] := c_Known T
  have M_Reader_sum_to_end : MetG (CXX P w) P w K mg base 26 a.cR "sum_to_end" (spSumTo a.cR a.cO a.cBL) [] := c_SumTo T
  obtain ⟨f, fd, D, hm⟩ := T.m_Reader_small_part
  refine ⟨f, fd, _, [], T.cl_Reader, hm, D.ok sc_Reader_small_part (fun vs H Q E h => ?_) (fun cdv A outer s H vs Q E hr h => ⟨_, (pss_cons (ps_set (i := 3) sc_Reader_small_part.nd rfl (Or.inl rfl) (pe_ix ix_list (pv 2) pe_int (fun _ _ => rfl)))
      (pss_cons (ps_if (pt_cmpR op_eq (pv 3) pe_str (nomark _)) (pss_cons (ps_expr (pe_mX M_Reader_need_size hr (by omega) (passes_call (takes_of rfl rfl rfl rfl) (fun _ _ _ _ h => h)) (pv 0) (pa_cons (pv 1) (pa_cons (pv 2) (pa_cons pe_int pa_nil)))))
      (pss_one (ps_ret (pe_tup (pa_cons pe_str pa_nil))))) pss_nil)
      (pss_cons (ps_if (pt_cmpR op_in_seq (pv 3) (pe_tup (pa_cons pe_str (pa_cons pe_str pa_nil))) (by rfl)) (pss_cons (ps_if (PW.pt (pw_and (pt_cmpR op_gt (pe_callB call_len_seq (by rfl) T.b_len (by decide +kernel) (pa_cons (pv 2) pa_nil)) pe_int (nomark _)) (pw_and1 (pt_cmpR op_notIn_seq (pe_ix ix_list (pv 2) pe_int (fun _ _ => rfl)) (pe_ifExp (pt_cmpR op_eq (pv 3) pe_str (nomark _)) (pe_fld (pv 0) rfl) (pe_m00 M_Reader_known hr (by omega) (pv 0))) (by rfl))))) (pss_one (ps_expr (pe_mX M_Reader_fail hr (by omega) (passes_call (takes_of rfl rfl rfl rfl) (fun _ _ _ _ h => h)) (pv 0) (pa_cons (pv 1) (pa_cons pe_int pa_nil))))) pss_nil)
      (pss_cons (ps_expr (pe_mX M_Reader_need_size hr (by omega) (passes_call (takes_of rfl rfl rfl rfl) (fun _ _ _ _ h => h)) (pv 0) (pa_cons (pv 1) (pa_cons (pv 2) (pa_cons pe_int pa_nil)))))
      (pss_one (ps_ret (pe_tup (pa_cons (pv 3) (pa_cons (pe_ix ix_list (pv 2) pe_int (fun _ _ => rfl)) pa_nil))))))) pss_nil)
      (pss_cons (ps_if (pt_cmpR op_eq (pv 3) pe_str (nomark _)) (pss_one (ps_ret (pe_tup (pa_cons pe_str (pa_cons (pe_mX M_Reader_sum_to_end hr (by omega) (passes_call (takes_of rfl rfl rfl rfl) (fun _ _ _ _ h => h)) (pv 0) (pa_cons (pv 1) (pa_cons (pv 2) (pa_cons pe_int pa_nil)))) pa_nil))))) pss_nil)
      (pss_cons (ps_if (PW.pt (pw_or (pt_cmpR op_lt (pe_callB call_len_seq (by rfl) T.b_len (by decide +kernel) (pa_cons (pv 2) pa_nil)) pe_int (nomark _)) (pw_or1 (pt_cmpR op_notIn_seq (pe_ix ix_list (pv 2) pe_int (fun _ _ => rfl)) (pe_fld (pv 0) rfl) (by rfl))))) (pss_one (ps_expr (pe_mX M_Reader_fail hr (by omega) (passes_call (takes_of rfl rfl rfl rfl) (fun _ _ _ _ h => h)) (pv 0) (pa_cons (pv 1) (pa_cons pe_int pa_nil))))) pss_nil)
      (pss_cons (ps_if (PW.pt (pw_or (pt_cmpR op_lt (pe_callB call_len_seq (by rfl) T.b_len (by decide +kernel) (pa_cons (pv 2) pa_nil)) pe_int (nomark _)) (pw_or1 (pt_cmpR op_ne (pe_ix ix_list (pv 2) pe_int (fun _ _ => rfl)) pe_str (nomark _))))) (pss_one (ps_expr (pe_mX M_Reader_fail hr (by omega) (passes_call (takes_of rfl rfl rfl rfl) (fun _ _ _ _ h => h)) (pv 0) (pa_cons (pv 1) (pa_cons pe_int pa_nil))))) pss_nil)
      (pss_one (ps_ret (pe_tup (pa_cons pe_str (pa_cons (pe_ix ix_list (pv 2) pe_int (fun _ _ => rfl)) (pa_cons (pe_mX M_Reader_sum_to_end hr (by omega) (passes_call (takes_of rfl rfl rfl rfl) (fun _ _ _ _ h => h)) (pv 0) (pa_cons (pv 1) (pa_cons (pv 2) (pa_cons pe_int pa_nil)))) pa_nil)))))))))))), ?_⟩), D.bindsN (fun _ _ _ _ _ _ us hl => match us, hl with | [_, _, _], _ => rfl), .nil⟩
  · obtain ⟨R, st, names, wl, ws, first, line, rfl, _⟩ := h
    rfl
  · obtain ⟨R, st, names, wl, ws, first, line, rfl, hR, hn, hw, ok, h0, hpl, k⟩ := h
    obtain ⟨dx, na, h1, h2⟩ := hR.nms hn
    have hws1 : 1 ≤ ws.length := by
      have := (List.getElem?_eq_some_iff.mp h0).1
      omega
    refine q_asg (v := .str first) (wat (ev_var rfl) hw ev_c h0) fun H1 e1 => ?_
    unfold smallPart at k
    by_cases c1 : first = "stop"
    · rw [if_pos c1] at k
      refine q_yes (et_w (ev_var rfl) (decide_eq_true c1)) fun H2 e2' => ?_
      have e2 := e1.trans e2'
      refine q_need (n := 1) (ev_var rfl) (hR.insR.ex e2) (e2 _ _ hw) (ea_cons (ev_var rfl) (ea_cons (ev_var rfl) (ea_cons ev_c ea_nil))) (fun hl H3 e3 => ?_) fun e he => (k.err (he _)).mono e2
      refine s_retU (eu_tup (ea_cons ev_c ea_nil) (by simp)) fun p H4 hp e4 h4 => k.ok (x := .stop) (by rw [needSize, if_neg (by omega), if_neg (by omega)]) _ H4 ((e2.trans e3).trans e4) ?_
      rw [eP]
      exact ⟨p, _, rfl, h4, _, _, rfl, rfl, rfl⟩
    · rw [if_neg c1] at k
      refine q_no (et_w (ev_var rfl) (decide_eq_false c1)) fun H2 e2' => ?_
      have e2 := e1.trans e2'
      by_cases c2 : first = "ask"
      · subst c2
        rw [if_pos rfl] at k
        refine q_yes (et_is (et_test (ev_inUs (l := ["ask", "do"]) (ev_var rfl) (ea_cons ev_c (ea_cons ev_c ea_nil)) (by decide))) (by decide +kernel)) fun H3 e3' => ?_
        have e3 := e2.trans e3'
        refine q_when (b := badIn names ws) (by
          rw [badIn_at]
          cases hx : ws[1]? with
          | none => exact et_and (a := false) (b := false) (et_is (et_test (ev_op (wlen (ev_var rfl) (e3 _ _ hw)) ev_c rv_I0)) (decide_eq_false (by have := List.getElem?_eq_none_iff.mp hx; omega))) (fun h => nomatch h)
          | some x => exact et_and (a := true) (b := !decide (x ∈ names)) (et_is (et_test (ev_op (wlen (ev_var rfl) (e3 _ _ hw)) ev_c rv_I0)) (decide_eq_true (by have := (List.getElem?_eq_some_iff.mp hx).1; omega))) (fun _ => et_test (ev_op (wat (ev_var rfl) (e3 _ _ hw) ev_c hx) (ev_if (b := true) (et_w (ev_var rfl) (decide_eq_true rfl)) (fun _ => ev_fld (ev_var rfl) (e3 _ _ h1) T.cl_Reader T.n_Reader_names rfl) fun h => nomatch h) (rv_niTs (st_of (e3 _ _ h2)))))) (fun h H4 e4 => ?_) (fun h H4 e4' => ?_)
        · rw [if_pos h] at k
          exact s_out (a_rfail (ev_var rfl) (hR.insR.ex (e3.trans e4)) (ea_cons (ev_var rfl) (ea_cons ev_c ea_nil)) ((k.err rfl).mono (e3.trans e4)))
        · rw [if_neg (by rw [h]; exact Bool.false_ne_true)] at k
          have e4 := e3.trans e4'
          refine q_need (n := 2) (ev_var rfl) (hR.insR.ex e4) (e4 _ _ hw) (ea_cons (ev_var rfl) (ea_cons (ev_var rfl) (ea_cons ev_c ea_nil))) (fun hl H5 e5 => ?_) fun e he => (k.err (he _)).mono e4
          obtain ⟨x, hx⟩ := get_of_lt (ws := ws) (i := 1) (by omega)
          refine s_retU (eu_tup (ea_cons (ev_var rfl) (ea_cons (wat (ev_var rfl) ((e4.trans e5) _ _ hw) ev_c hx) ea_nil)) (by simp)) fun p H6 hp e6 h6 => k.ok (x := .ask x) (by rw [needSize, if_neg (by omega), if_neg (by omega), word1_at hx]) _ H6 ((e4.trans e5).trans e6) ?_
          rw [eP]
          exact ⟨p, _, rfl, h6, _, _, rfl, rfl, _, _, rfl, rfl, rfl⟩
      rw [if_neg c2] at k
      by_cases c3 : first = "do"
      · subst c3
        rw [if_pos rfl] at k
        refine q_yes (et_is (et_test (ev_inUs (l := ["ask", "do"]) (ev_var rfl) (ea_cons ev_c (ea_cons ev_c ea_nil)) (by decide))) (by decide +kernel)) fun H3 e3' => ?_
        have e3 := e2.trans e3'
        refine q_when (b := badIn (known st) ws) (by
          rw [badIn_at]
          cases hx : ws[1]? with
          | none => exact et_and (a := false) (b := false) (et_is (et_test (ev_op (wlen (ev_var rfl) (e3 _ _ hw)) ev_c rv_I0)) (decide_eq_false (by have := List.getElem?_eq_none_iff.mp hx; omega))) (fun h => nomatch h)
          | some x => exact et_and (a := true) (b := !decide (x ∈ (known st))) (et_is (et_test (ev_op (wlen (ev_var rfl) (e3 _ _ hw)) ev_c rv_I0)) (decide_eq_true (by have := (List.getElem?_eq_some_iff.mp hx).1; omega))) (fun _ => et_test (ev_opL (wat (ev_var rfl) (e3 _ _ hw) ev_c hx) (el_if (b := false) (et_w (ev_var rfl) (by decide +kernel)) (fun h => nomatch h) fun _ => el_meth0 (ev_var rfl) (e3 _ _ h1) rfl fun H4 e4 Q' q => ⟨R, st, rfl, hR.ex (e3.trans e4), hpl, q⟩) fun p H4 hp e4 => rv_niLs (sq_of hp)))) (fun h H4 e4 => ?_) (fun h H4 e4' => ?_)
        · rw [if_pos h] at k
          exact s_out (a_rfail (ev_var rfl) (hR.insR.ex (e3.trans e4)) (ea_cons (ev_var rfl) (ea_cons ev_c ea_nil)) ((k.err rfl).mono (e3.trans e4)))
        · rw [if_neg (by rw [h]; exact Bool.false_ne_true)] at k
          have e4 := e3.trans e4'
          refine q_need (n := 2) (ev_var rfl) (hR.insR.ex e4) (e4 _ _ hw) (ea_cons (ev_var rfl) (ea_cons (ev_var rfl) (ea_cons ev_c ea_nil))) (fun hl H5 e5 => ?_) fun e he => (k.err (he _)).mono e4
          obtain ⟨x, hx⟩ := get_of_lt (ws := ws) (i := 1) (by omega)
          refine s_retU (eu_tup (ea_cons (ev_var rfl) (ea_cons (wat (ev_var rfl) ((e4.trans e5) _ _ hw) ev_c hx) ea_nil)) (by simp)) fun p H6 hp e6 h6 => k.ok (x := .doP x) (by rw [needSize, if_neg (by omega), if_neg (by omega), word1_at hx]) _ H6 ((e4.trans e5).trans e6) ?_
          rw [eP]
          exact ⟨p, _, rfl, h6, _, _, rfl, rfl, _, _, rfl, rfl, rfl⟩
      rw [if_neg c3] at k
      refine q_no (et_is (et_test (ev_inUs (l := ["ask", "do"]) (ev_var rfl) (ea_cons ev_c (ea_cons ev_c ea_nil)) (by decide))) (decide_eq_false (by simp [c2, c3]))) fun H3 e3' => ?_
      have e3 := e2.trans e3'
      by_cases c4 : first = "say"
      · rw [if_pos c4] at k
        refine q_yes (et_w (ev_var rfl) (decide_eq_true c4)) fun H4 e4' => ?_
        have e4 := e3.trans e4'
        refine s_tupX2 (a_meth (ev_var rfl) (e4 _ _ h1) rfl (ea_cons (ev_var rfl) (ea_cons (ev_var rfl) (ea_cons ev_c ea_nil))) fun H5 e5' => ⟨R, st, names, wl, ws, line, 1, rfl, hR.ex (e4.trans e5'), hn, (e4.trans e5') _ _ hw, ok, hws1, .mk (fun s he v H6 e6 hv => ?_) fun e he => ?_⟩)
        · rw [he] at k
          refine ⟨by show 2 ≤ sizeLine; exact sz_of (by decide), fun p hp => k.ok rfl _ _ (((e4.trans e5').trans e6).trans (Ex.new hp)) ?_⟩
          rw [eP]
          exact ⟨p, _, rfl, upd_same, _, _, rfl, rfl, _, _, rfl, hv.ex (Ex.new hp), rfl⟩
        · rw [he] at k
          exact (k.err rfl).mono (e4.trans e5')
      · rw [if_neg c4] at k
        refine q_no (et_w (ev_var rfl) (decide_eq_false c4)) fun H4 e4' => ?_
        have e4 := e3.trans e4'
        refine q_when (b := decide (ws.length < 2 ∨ word1 ws ∉ names)) (by
          cases hx : ws[1]? with
          | none =>
            have hl := List.getElem?_eq_none_iff.mp hx
            exact et_is (et_or (a := true) (b := false) (et_is (et_test (ev_op (wlen (ev_var rfl) (e4 _ _ hw)) ev_c rv_I0)) (decide_eq_true (by omega))) fun h => nomatch h) (decide_eq_true (.inl (by omega))).symm
          | some x =>
            have hl := (List.getElem?_eq_some_iff.mp hx).1
            refine et_is (et_or (a := false) (b := !decide (x ∈ names)) (et_is (et_test (ev_op (wlen (ev_var rfl) (e4 _ _ hw)) ev_c rv_I0)) (decide_eq_false (by omega))) fun _ => et_test (ev_op (wat (ev_var rfl) (e4 _ _ hw) ev_c hx) (ev_fld (ev_var rfl) (e4 _ _ h1) T.cl_Reader T.n_Reader_names rfl) (rv_niTs (st_of (e4 _ _ h2))))) ?_
            rw [word1_at hx, Bool.false_or]
            by_cases hxn : x ∈ names
            · rw [decide_eq_true hxn]
              exact (decide_eq_false (fun z => z.elim (by omega) fun q => q hxn)).symm
            · rw [decide_eq_false hxn]
              exact (decide_eq_true (.inr hxn)).symm) (fun h H5 e5 => ?_) (fun h H5 e5' => ?_)
        · rw [if_pos (of_decide_eq_true h)] at k
          exact s_out (a_rfail (ev_var rfl) (hR.insR.ex (e4.trans e5)) (ea_cons (ev_var rfl) (ea_cons ev_c ea_nil)) ((k.err rfl).mono (e4.trans e5)))
        · have h' := of_decide_eq_false h
          rw [if_neg h'] at k
          rw [not_or] at h'
          have e5 := e4.trans e5'
          obtain ⟨x, hx⟩ := get_of_lt (ws := ws) (i := 1) (by omega)
          rw [word1_at hx] at k
          refine q_when (b := decide (ws.length < 3 ∨ ws[2]? ≠ some ("=" : Str))) (by
            cases hy : ws[2]? with
            | none =>
              have hl := List.getElem?_eq_none_iff.mp hy
              exact et_is (et_or (a := true) (b := false) (et_is (et_test (ev_op (wlen (ev_var rfl) (e5 _ _ hw)) ev_c rv_I0)) (decide_eq_true (by omega))) fun h => nomatch h) (decide_eq_true (.inl (by omega))).symm
            | some y =>
              have hl := (List.getElem?_eq_some_iff.mp hy).1
              refine et_is (et_or (a := false) (b := !decide (y = "=")) (et_is (et_test (ev_op (wlen (ev_var rfl) (e5 _ _ hw)) ev_c rv_I0)) (decide_eq_false (by omega))) fun _ => et_test (ev_neS (wat (ev_var rfl) (e5 _ _ hw) ev_c hy) ev_c rfl)) ?_
              rw [Bool.false_or]
              by_cases hye : y = "="
              · rw [decide_eq_true hye]
                exact (decide_eq_false (fun z => z.elim (by omega) fun q => q (by rw [hye]))).symm
              · rw [decide_eq_false hye]
                exact (decide_eq_true (.inr fun z => hye (Option.some.inj z))).symm) (fun h H6 e6 => ?_) (fun h H6 e6' => ?_)
          · rw [if_pos (of_decide_eq_true h)] at k
            exact s_out (a_rfail (ev_var rfl) (hR.insR.ex (e5.trans e6)) (ea_cons (ev_var rfl) (ea_cons ev_c ea_nil)) ((k.err rfl).mono (e5.trans e6)))
          · have h'' := of_decide_eq_false h
            rw [if_neg h''] at k
            rw [not_or] at h''
            have e6 := e5.trans e6'
            refine s_tupX3 (wat (ev_var rfl) (e6 _ _ hw) ev_c hx) fun H7 e7' => ?_
            have e7 := e6.trans e7'
            refine a_meth (ev_var rfl) (e7 _ _ h1) rfl (ea_cons (ev_var rfl) (ea_cons (ev_var rfl) (ea_cons ev_c ea_nil))) fun H8 e8' => ⟨R, st, names, wl, ws, line, 3, rfl, hR.ex (e7.trans e8'), hn, (e7.trans e8') _ _ hw, ok, by omega, .mk (fun s he v H9 e9 hv => ?_) fun e he => ?_⟩
            · rw [he] at k
              refine ⟨by show 3 ≤ sizeLine; exact sz_of (by decide), fun p hp => k.ok rfl _ _ (((e7.trans e8').trans e9).trans (Ex.new hp)) ?_⟩
              rw [eP]
              exact ⟨p, _, rfl, upd_same, _, _, rfl, rfl, _, _, rfl, rfl, _, _, rfl, hv.ex (Ex.new hp), rfl⟩
            · rw [he] at k
              exact (k.err rfl).mono (e7.trans e8')
end
end RS
end
section
set_option Elab.async false
set_option linter.all false
set_option maxRecDepth 100000
set_option maxHeartbeats 4000000
/-! W14: the reader takes names, procedures; what a line does. -/
namespace RS
open PySem L2 TL Evl
/-! ### enumerate -/
section
variable {K : PySem.W.Frag} {σ : L2.St} {H : Hp} {tl' : TE} {g : TG} {tu tz : TS} {D : Ends}
theorem q_forE {xs : List V} (h : EvL tl' σ H xs) (Pv : Addr → Nat → L2.St → Hp → Prop) (h0 : ∀ p H1, H p = none → Ex H H1 → H1 p = some (.lst xs) → Pv p 0 σ H1) (hl : ∀ p i σ' H', i ≤ xs.length → Pv p i σ' H' → SqL K H' p xs)
    (hs : ∀ p i x t σ' H', xs[i]? = some x → Pv p i σ' H' → H' t = none → g (.ref t) σ' (upd H' t (.tup [.int (i : Nat), x])) fun σ2 H2 => tu { D with nx := Pv p (i + 1), ct := Pv p (i + 1), bk := tz D } σ2 H2) (hd : ∀ p σ' H', Pv p xs.length σ' H' → tz D σ' H') :
    tSeq (tFor (iEnum K (tCons tl' tNil)) g tu) tz D σ H :=
  h H (Ex.refl H) _ fun p H1 hp e h1 => ⟨p, xs, rfl, sq_of h1, for_it (walk_enum (K := K) (a := p) (xs := xs)) (D := { D with nx := tz D }) (Pv p) (h0 p H1 hp e h1) (hl p) (fun i x σ' H' H'' hi hp' hy => by
    obtain ⟨t, x1, y1, rfl, ht, rfl, h1, h2⟩ := hy
    cases h1
    exact hs p i y1 t σ' H' h2 hp' ht) (hd p)⟩
theorem q_forEV {a : Addr} {xs : List V} (h : Ev tl' σ H (.ref a)) (hx : SqL K H a xs) (Pv : Nat → L2.St → Hp → Prop) (h0 : ∀ H1, Ex H H1 → Pv 0 σ H1) (hl : ∀ i σ' H', i ≤ xs.length → Pv i σ' H' → SqL K H' a xs)
    (hs : ∀ i x t σ' H', xs[i]? = some x → Pv i σ' H' → H' t = none → g (.ref t) σ' (upd H' t (.tup [.int (i : Nat), x])) fun σ2 H2 => tu { D with nx := Pv (i + 1), ct := Pv (i + 1), bk := tz D } σ2 H2) (hd : ∀ σ' H', Pv xs.length σ' H' → tz D σ' H') :
    tSeq (tFor (iEnum K (tCons tl' tNil)) g tu) tz D σ H :=
  h H (Ex.refl H) _ fun H1 e => ⟨a, xs, rfl, ex_l e hx, for_it (walk_enum (K := K) (a := a) (xs := xs)) (D := { D with nx := tz D }) Pv (h0 H1 e) hl (fun i x σ' H' H'' hi hp' hy => by
    obtain ⟨t, x1, y1, rfl, ht, rfl, h1, h2⟩ := hy
    cases h1
    exact hs i y1 t σ' H' h2 hp' ht) hd⟩
end
/-! ### slices of lists -/
theorem cutV_tail (xs : List V) : cutV xs (some 1) none = xs.tail := by
  have e1 : HT.sIx xs.length 0 (some 1) = min 1 xs.length := HT.sIx_nat _ _ 1
  have e2 : HT.sIx xs.length xs.length none = xs.length := HT.sIx_none _ _
  unfold cutV
  rw [e1, e2]
  cases xs with
  | nil => rfl
  | cons x r =>
    have e3 : min 1 (x :: r).length = 1 := by rw [List.length_cons]; omega
    rw [e3]
    show List.take _ (List.drop 1 (x :: r)) = r
    rw [List.drop_one, List.tail_cons, List.length_cons, Nat.add_sub_cancel, List.take_length]
theorem cutV_take (xs : List V) (i : Nat) (h : i + 1 ≤ xs.length) : cutV xs (some 1) (some ((i : Nat) + 1 : Int)) = xs.tail.take i := by
  have e1 : HT.sIx xs.length 0 (some 1) = min 1 xs.length := HT.sIx_nat _ _ 1
  have e2 : HT.sIx xs.length xs.length (some ((i : Nat) + 1 : Int)) = min (i + 1) xs.length := HT.sIx_nat _ _ (i + 1)
  unfold cutV
  rw [e1, e2]
  have e3 : min 1 xs.length = 1 := by omega
  have e4 : min (i + 1) xs.length = i + 1 := by omega
  rw [e3, e4, List.drop_one, Nat.add_sub_cancel]
/-! ### what a line does -/
def ErrP (CL : Addr) (R : RA) (line e : Int) (H : Hp) (E : XK) : Prop := ∀ d H', Same R.cs H H' → H d = none → H' d = some (.xd (blF line e)) → E (.ref CL) (some d) H'
def Post (CR CO CL : Addr) (R : RA) (wl : Addr) (r : RT) (line : Int) (H : Hp) (Q : VK) (E : XK) : Prop := match r with
  | .ok st' => ∀ R' H', R'.r = R.r → Same R.cs H H' → RdOk CR CO H' R' st' → (∀ c ∈ R'.cs, c ∈ R.cs ∨ c = wl ∨ H c = none) → Q .non H'
  | .error e => ErrP CL R line ((e : Nat) : Int) H E
section
variable {CR CO CL : Addr} {R : RA} {wl : Addr} {r : RT} {line : Int} {H H' : Hp} {Q : VK} {E : XK} {st st' : Rd} {x : Nat}
theorem Post.ok (h : Post CR CO CL R wl r line H Q E) (e : r = .ok st') : ∀ R' H', R'.r = R.r → Same R.cs H H' → RdOk CR CO H' R' st' → (∀ c ∈ R'.cs, c ∈ R.cs ∨ c = wl ∨ H c = none) → Q .non H' := by
  subst e
  exact h
theorem Post.err (h : Post CR CO CL R wl r line H Q E) (e : r = .error x) : ErrP CL R line ((x : Nat) : Int) H E := by
  subst e
  exact h
theorem Post.mk (h1 : ∀ st', r = .ok st' → ∀ R' H', R'.r = R.r → Same R.cs H H' → RdOk CR CO H' R' st' → (∀ c ∈ R'.cs, c ∈ R.cs ∨ c = wl ∨ H c = none) → Q .non H') (h2 : ∀ x, r = .error x → ErrP CL R line ((x : Nat) : Int) H E) : Post CR CO CL R wl r line H Q E := by
  match r, h1, h2 with
  | .ok s, h1, h2 => exact h1 s rfl
  | .error x, h1, h2 => exact h2 x rfl
theorem same_none {C : List Addr} {a : Addr} (s : Same C H H') (kn : ∀ c ∈ C, ∃ o, H' c = some o) (h : H' a = none) : H a = none := by
  cases e : H a with
  | none => rfl
  | some o =>
    by_cases ha : a ∈ C
    · obtain ⟨u, hu⟩ := kn a ha
      rw [hu] at h
      cases h
    · rw [s a o ha e] at h
      cases h
theorem ErrP.rais {e : Int} (h : ErrP CL R line e H E) (s : Same R.cs H H') (kn : ∀ c ∈ R.cs, ∃ o, H' c = some o) : RaisBL CL line e H' E := fun d H2 e2 hd h2 => h d H2 (s.trans (.of_ex e2)) (same_none s kn hd) h2
theorem ErrP.ex {e : Int} (h : ErrP CL R line e H E) (e1 : Ex H H') : RaisBL CL line e H' E := fun d H2 e2 hd h2 => h d H2 (.of_ex (e1.trans e2)) (fresh_back e1 hd) h2
/-- the promise goes on behind writes -/
theorem Post.mono (h : Post CR CO CL R wl r line H Q E) (s : Same R.cs H H') (kn : ∀ c ∈ R.cs, ∃ o, H' c = some o) : Post CR CO CL R wl r line H' Q E :=
  .mk (fun st' e R' H2 h1 h2 h3 h4 => h.ok e R' H2 h1 (s.trans h2) h3 fun c hc => by
    rcases h4 c hc with q | q | q
    · exact .inl q
    · exact .inr (.inl q)
    · exact .inr (.inr (same_none s kn q))) fun x e d H2 e2 hd h2 => h.err e d H2 (s.trans e2) (same_none s kn hd) h2
end
/-- what a line's method needs -/
structure LineAt (CR CO : Addr) (H : Hp) (R : RA) (st : Rd) (wl : Addr) (ws : List Str) (N : Nat) : Prop where
  rd : RdOk CR CO H R st
  wl_ : H wl = some (.lst (ws.map V.str))
  nw : wl ∉ R.cs
  ok : okWs ws
  one : 1 ≤ ws.length
  /-- how long the lists may be -/
  pr : st.procs.length ≤ N
  tw : st.tw.length ≤ N + 1
  cu : ∀ op ∈ st.tw, op.cu.length ≤ N ∧ (∀ d, op.dn = some d → d.length ≤ N)
  few : N ≤ 20000
theorem LineAt.ex {CR CO : Addr} {H H' : Hp} {R : RA} {st : Rd} {wl : Addr} {ws : List Str} {N : Nat} (e : Ex H H') (h : LineAt CR CO H R st wl ws N) : LineAt CR CO H' R st wl ws N := { h with rd := h.rd.ex e, wl_ := e _ _ h.wl_ }
def spTakeNames (CR CO CL : Addr) : Sp := fun vs H Q E => ∃ (R : RA) (st : Rd) (wl : Addr) (ws : List Str) (line : Int) (N : Nat), vs = [.ref R.r, .int line, .ref wl] ∧ LineAt CR CO H R st wl ws N ∧ Post CR CO CL R wl (takeNames st ws) line H Q E
theorem tl_map {ws : List Str} : (ws.map V.str).tail = ws.tail.map V.str := by cases ws <;> rfl
section
variable {P : Program} {w : World} {K : PySem.W.Frag} {mg : Str → Option Value} {base : Heap} {a : Ads}
theorem c_TakeNames (T : Txt K mg w a) : MetG (CXX P w) P w K mg base 4 a.cR "take_names" (spTakeNames a.cR a.cO a.cBL) [] := by
  have M_Reader_fail : MetG (CXX P w) P w K mg base 3 a.cR "fail" (spRFail a.cR a.cBL) [] := c_RFail T
  have C_is_name : CalG CX0 P w K mg base 1 "is_name" spIsName [] := c_is_name T
  obtain ⟨f, fd, D, hm⟩ := T.m_Reader_take_names
  refine ⟨f, fd, _, [], T.cl_Reader, hm, D.ok sc_Reader_take_names (fun vs H Q E h => ?_) (fun cdv A outer s H vs Q E hr h => ⟨_, (pss_cons (ps_for (passes_of rfl) rfl (pi_enum (by rfl) T.b_enumerate (pa_cons (pe_slice sl_list (pv 2) (po_some pe_int) po_none) pa_nil)) (pg_tup (by rfl) (pgs_cons (pg_name (i := 3) sc_Reader_take_names.nd rfl (Or.inl rfl)) (pgs_cons (pg_name (i := 4) sc_Reader_take_names.nd rfl (Or.inl rfl)) pgs_nil))) (pss_one (ps_if (PW.pt (pw_or (pt_cmpR op_eq (pv 3) (C8.pe_gc (by rfl) T.g_MOST_PLACES) (nomark _)) (pw_or (pt_not (pt_val (pe_f0 C_is_name hr (by omega) (by rfl) (pa_cons (pv 4) pa_nil)))) (pw_or1 (pt_cmpR op_in_seq (pv 4) (pe_slice sl_list (pv 2) (po_some pe_int) (po_some (pe_op op_add (pv 3) pe_int))) (by rfl)))))) (pss_one (ps_expr (pe_mX M_Reader_fail hr (by omega) (passes_call (takes_of rfl rfl rfl rfl) (fun _ _ _ _ h => h)) (pv 0) (pa_cons (pv 1) (pa_cons (pe_op op_add (pv 3) pe_int) pa_nil))))) pss_nil)))
      (pss_cons (ps_if (pt_cmpR op_eq (pe_callB call_len_seq (by rfl) T.b_len (by decide +kernel) (pa_cons (pv 2) pa_nil)) pe_int (nomark _)) (pss_one (ps_expr (pe_mX M_Reader_fail hr (by omega) (passes_call (takes_of rfl rfl rfl rfl) (fun _ _ _ _ h => h)) (pv 0) (pa_cons (pv 1) (pa_cons pe_int pa_nil))))) pss_nil)
      (pss_one (ps_fld (pv 0) (pe_callTy (call_tuple_ofK (K := K) rfl) (by rfl) T.b_tuple (by decide +kernel) (pa_cons (pe_slice sl_list (pv 2) (po_some pe_int) po_none) pa_nil)) rfl)))), ?_⟩), D.bindsN (fun _ _ _ _ _ _ us hl => match us, hl with | [_, _, _], _ => rfl), .nil⟩
  · obtain ⟨R, st, wl, ws, line, N, rfl, _⟩ := h
    rfl
  · obtain ⟨R, st, wl, ws, line, N, rfl, L, k⟩ := h
    have hw := L.wl_
    have hws1 := L.one
    have hws5 := L.ok.1
    have hlt : ws.tail.length + 1 = ws.length := by rw [List.length_tail]; omega
    unfold takeNames at k
    have hsl : EvL (tSl (rSlL K) (tVar 2) (tPart (tC (.int 1))) tNoPart) [some (.ref R.r), some (.int line), some (.ref wl), none, none] H (ws.tail.map V.str) := by
      have := el_sl (K := K) (te := tVar 2) (σ := [some (.ref R.r), some (.int line), some (.ref wl), none, none]) (H := H) (ev_var rfl) (eo_some (te := tC (.int 1)) ev_c) eo_none (sq_of hw)
      rw [cutV_tail, tl_map] at this
      exact this
    refine q_forE (xs := ws.tail.map V.str) hsl (fun p i σ' H' => ∃ x y, σ' = [some (.ref R.r), some (.int line), some (.ref wl), x, y] ∧ Ex H H' ∧ H' p = some (.lst (ws.tail.map V.str)) ∧ checkNames (ws.tail.take i) (ws.tail.drop i) = checkNames [] ws.tail)
      (fun p H1 _ e1 h1 => ⟨none, none, rfl, e1, h1, rfl⟩) (fun p i σ' H' _ ⟨_, _, _, _, h, _⟩ => sq_of h) ?_ ?_
    · rintro p i x t σ' H' hx ⟨x0, y0, rfl, e, hp, hc⟩ ht
      rw [List.getElem?_map] at hx
      cases hwi : ws.tail[i]? with
      | none =>
        rw [hwi] at hx
        cases hx
      | some y =>
        rw [hwi] at hx
        cases hx
        have hil := (List.getElem?_eq_some_iff.mp hwi).1
        have hym : y ∈ ws := List.mem_of_mem_tail (List.mem_of_getElem? hwi)
        have hyo := L.ok.2 y hym
        have et := Ex.new (H := H') (o := HO.tup [.int (i : Nat), .str y]) ht
        refine g_two upd_same ?_
        generalize hH2 : upd H' t (HO.tup [.int (i : Nat), .str y]) = H2
        rw [hH2] at et
        have e2 := e.trans et
        have hdr : ws.tail.drop i = y :: ws.tail.drop (i + 1) := by rw [List.drop_eq_getElem_cons hil, (List.getElem?_eq_some_iff.mp hwi).2]
        rw [hdr, checkNames] at hc
        have htl : (ws.tail.take i).length = i := by rw [List.length_take]; omega
        rw [htl] at hc
        refine s_when (b := decide (i = 5 ∨ isName y = false ∨ y ∈ ws.tail.take i)) (et_is (et_or (a := decide (i = 5)) (b := (!isName y || decide (y ∈ ws.tail.take i))) (et_test (ev_eqI (ev_var rfl) ev_c (by
              by_cases h : i = 5
              · rw [decide_eq_true h]
                exact decide_eq_true (by omega)
              · rw [decide_eq_false h]
                exact decide_eq_false (by omega)))) (fun _ => et_or (et_not (et_B (ev_call (ea_cons (ev_var rfl) ea_nil) fun H3 e3 Q' q E' => ⟨y, rfl, hyo.2, hyo.1, q⟩))) fun _ =>
            et_test (ev_opL (ev_var rfl) (el_is (xs := cutV (ws.map V.str) (some 1) (some ((i : Nat) + 1 : Int))) (el_sl (ev_var rfl) (eo_some ev_c) (eo_some (ev_op (ev_var rfl) ev_c rv_I0)) (sq_of (e2 _ _ hw))) (by
              rw [cutV_take _ _ (by rw [List.length_map]; omega), tl_map, ← List.map_take])) fun q H3 hq e3 => rv_inLs (sq_of hq)))) (by
            by_cases h1 : i = 5
            · rw [decide_eq_true h1, Bool.true_or]
              exact (decide_eq_true (.inl h1)).symm
            · rw [decide_eq_false h1, Bool.false_or]
              cases h2 : isName y with
              | false =>
                exact (decide_eq_true (.inr (.inl rfl))).symm
              | true =>
                by_cases h3 : y ∈ ws.tail.take i
                · rw [decide_eq_true h3]
                  exact (decide_eq_true (.inr (.inr h3))).symm
                · rw [decide_eq_false h3]
                  exact (decide_eq_false (fun z => z.elim h1 fun z => z.elim (fun z => nomatch z) h3)).symm)) (fun h H3 e3 => ?_) (fun h H3 e3 => ?_)
        · rw [if_pos (of_decide_eq_true h)] at hc
          have k' := k.err (x := i + 2) (by rw [← hc])
          refine s_out (a_rfail (ev_var rfl) (L.rd.insR.ex (e2.trans e3)) (ea_cons (ev_var rfl) (ea_cons (ev_op (ev_var rfl) ev_c rv_I0) ea_nil)) ?_)
          exact k'.ex (e2.trans e3)
        · rw [if_neg (of_decide_eq_false h)] at hc
          refine ⟨_, _, rfl, e2.trans e3, e3 _ _ (et _ _ hp), ?_⟩
          rw [← hc, List.take_add_one, hwi]
          rfl
    · rintro p σ' H' ⟨x0, y0, rfl, e, hp, hc⟩
      rw [List.length_map, List.take_length, List.drop_length, checkNames] at hc
      rw [← hc] at k
      dsimp only at k
      refine q_when (b := decide (ws.length = 1)) (et_test (ev_eqI (wlen (ev_var rfl) (e _ _ hw)) ev_c (by
          by_cases h : ws.length = 1
          · rw [decide_eq_true h]
            exact decide_eq_true (by omega)
          · rw [decide_eq_false h]
            exact decide_eq_false (by omega)))) (fun h H1 e1 => ?_) (fun h H1 e1' => ?_)
      · rw [if_pos (of_decide_eq_true h)] at k
        exact s_out (a_rfail (ev_var rfl) (L.rd.insR.ex (e.trans e1)) (ea_cons (ev_var rfl) (ea_cons ev_c ea_nil)) ((k.err rfl).ex (e.trans e1)))
      · rw [if_neg (of_decide_eq_false h)] at k
        have e1 := e.trans e1'
        obtain ⟨dx, nv, h1, h2⟩ := L.rd.ins
        have hsl2 := el_sl (K := K) (te := tVar 2) (σ := [some (.ref R.r), some (.int line), some (.ref wl), x0, y0]) (H := H1) (ev_var rfl) (eo_some (te := tC (.int 1)) ev_c) eo_none (sq_of (e1 _ _ hw))
        rw [cutV_tail, tl_map] at hsl2
        refine hsl2 H1 (Ex.refl H1) _ fun q H2 hq e2' hq2 => ⟨q, _, rfl, .inl ⟨sq_of hq2, fun t ht => ?_⟩⟩
        have e2 := (e1.trans e2').trans (Ex.new (o := .tup (ws.tail.map V.str)) ht)
        refine ⟨_, rfl, R.r, a.cR, dx, _, rfl, e2 _ _ h1, T.cl_Reader, T.n_Reader_names, by show 5 < 1000; decide, ?_⟩
        refine k.ok rfl R _ rfl (Same.trans (.of_ex e2) (.upd (by simp [RA.cs]))) ?_ fun c hc => .inl hc
        exact RdOk.setR (st' := { st with names := some ws.tail }) (L.rd.ex e2) rfl rfl ⟨t, rfl, upd_same⟩
end
end RS
end
section
set_option Elab.async false
set_option linter.all false
set_option maxRecDepth 100000
set_option maxHeartbeats 4000000
/-! W15: a procedure begins; close; an else or an end. -/
namespace RS
open PySem L2 TL Evl
section
variable {K : PySem.W.Frag} {σ : L2.St} {H : Hp} {ta te to tl' : TE} {tA : TA} {D : Ends} {tz : TS} {C : Addr} {dvs vs : List V} {E : XK}
/-- Open(words, test), the words and the test known -/
theorem open_core {Q : VK} {wa : Addr} {tv : V}
    (k : ∀ (o ba b0 dx : Addr) H', Ex H H' → H o = none → H ba = none → H b0 = none → o ≠ ba → o ≠ b0 → ba ≠ b0 → H' o = some (.ins C dx (opF wa tv ba)) → H' ba = some (.lst [.ref b0]) → H' b0 = some (.lst []) → Q (.ref o) H') :
    ∀ o dx, H o = none → H dx = none → dx ≠ o → spOpenI C [.ref o, .ref wa, tv] (upd (upd H dx (.own o)) o (.ins C dx [])) (fun v H2 => v = .non ∧ Q (.ref o) H2) E := fun o dx ho hdx hne => by
  refine ⟨o, dx, wa, tv, rfl, upd_same, fun ba b0 H' hk h1 h2 h3 n1 n2 n3 => ⟨rfl, ?_⟩⟩
  have q1 : ba ≠ o := fresh_ne upd_same n1
  have q2 : b0 ≠ o := fresh_ne upd_same n2
  have r1 : ba ≠ dx := fun z => by
    rw [z, upd_ne hne, upd_same] at n1
    cases n1
  have r2 : b0 ≠ dx := fun z => by
    rw [z, upd_ne hne, upd_same] at n2
    cases n2
  rw [upd_ne q1, upd_ne r1] at n1
  rw [upd_ne q2, upd_ne r2] at n2
  refine k o ba b0 dx H' (fun b u hu => ?_) ho n1 n2 (Ne.symm q1) (Ne.symm q2) n3 h1 h2 h3
  have m1 : b ≠ o := ne_of_none hu ho
  have m2 : b ≠ dx := ne_of_none hu hdx
  exact hk b u m1 (by rw [upd_ne m1, upd_ne m2]; exact hu)
/-- xs.append(Open(words, test)) -/
theorem s_appO {l wa : Addr} {tv : V} {xs : List V} (hl : H l = some (.lst xs)) (hz : xs.length < 100000) (ha : Ev ta σ H (.ref l)) (h : EvA tA σ H vs) (hv : vs ++ dvs = [.ref wa, tv])
    (k : ∀ (o ba b0 dx : Addr) H1 H', Ex H H1 → Ex H1 H' → H1 o = none → H1 ba = none → H1 b0 = none → o ≠ ba → o ≠ b0 → ba ≠ b0 → H' o = some (.ins C dx (opF wa tv ba)) → H' ba = some (.lst [.ref b0]) → H' b0 = some (.lst []) → D.nx σ (upd H' l (.lst (xs ++ [.ref o])))) :
    tDrop (tBM K "list" rAppend ta (tCons (tMake C (spOpenI C) dvs E tA) tNil)) D σ H := ha H (Ex.refl H) _ fun H1 e1 =>
  ⟨Or.inl ⟨rfl, xs, sq_of (e1 l _ hl)⟩, h H1 e1 _ fun H2 e2 x dx hx hdx hne => by
    rw [hv]
    exact open_core (Q := fun y H3 => rAppend (.ref l) [y] H3 fun _ H4 => D.nx σ H4) (wa := wa) (tv := tv) (fun o ba b0 dx H' e3 h1 h2 h3 n1 n2 n3 g1 g2 g3 => ⟨l, xs, .ref o, rfl, rfl, e3 _ _ (e2 _ _ (e1 _ _ hl)), sz_lt hz, k o ba b0 dx H2 H' (e1.trans e2) e3 h1 h2 h3 n1 n2 n3 g1 g2 g3⟩) x dx hx hdx hne⟩
end
theorem LineAt.push {CR CO : Addr} {H H1 H' : Hp} {R : RA} {st : Rd} {wl o ba b0 dx : Addr} {ws : List Str} {N : Nat} {tv : V} {kd : Kd} (L : LineAt CR CO H R st wl ws N) (e1 : Ex H H1) (e2 : Ex H1 H') (ho : H1 o = none) (hb : H1 ba = none) (h0 : H1 b0 = none)
    (n1 : o ≠ ba) (n2 : o ≠ b0) (n3 : ba ≠ b0) (io : H' o = some (.ins CO dx (opF wl tv ba))) (ib : H' ba = some (.lst [.ref b0])) (i0 : H' b0 = some (.lst [])) (hk : KdOk H' kd ws tv) :
    RdOk CR CO (upd H' R.ta (.lst ((R.ops.map fun A => V.ref A.o).reverse ++ [.ref o]))) { R with ops := ⟨o, wl, ba, [b0]⟩ :: R.ops } { st with tw := ⟨kd, none, []⟩ :: st.tw } ∧
      ∀ c ∈ ({ R with ops := ⟨o, wl, ba, [b0]⟩ :: R.ops } : RA).cs, c ∈ R.cs ∨ c = wl ∨ H c = none := by
  have hw := e1 _ _ L.wl_
  have kn := (L.rd.ex e1).known
  have nin : ∀ {c : Addr}, H1 c = none → c ∉ R.cs := fun hc z => by
    obtain ⟨u, hu⟩ := kn _ z
    rw [hu] at hc
    cases hc
  refine ⟨RdOk.push (A := ⟨o, wl, ba, [b0]⟩) ((L.rd.ex e1).ex e2) ⟨⟨dx, tv, ws, io, e2 _ _ hw, hk⟩, ib, b0, rfl, [], i0, rfl⟩ ?_ ?_, ?_⟩
  · show ([o, wl, ba, b0] : List Addr).Nodup
    simp only [List.nodup_cons, List.mem_cons, not_or, List.not_mem_nil, or_false, not_false_eq_true, and_true, List.nodup_nil]
    exact ⟨⟨fresh_ne hw ho, n1, n2⟩, ⟨Ne.symm (fresh_ne hw hb), Ne.symm (fresh_ne hw h0)⟩, n3⟩
  · intro c hc
    simp only [OpA.cs, List.mem_cons, List.not_mem_nil, or_false] at hc
    rcases hc with rfl | rfl | rfl | rfl
    · exact nin ho
    · exact L.nw
    · exact nin hb
    · exact nin h0
  · intro c hc
    simp only [RA.cs, opsC, OpA.cs, List.mem_cons, List.not_mem_nil, or_false, List.mem_append] at hc
    rcases hc with rfl | rfl | rfl | (rfl | rfl | rfl | rfl) | hc
    · exact .inl (by simp [RA.cs])
    · exact .inl (by simp [RA.cs])
    · exact .inl (by simp [RA.cs])
    · exact .inr (.inr (fresh_back e1 ho))
    · exact .inr (.inl rfl)
    · exact .inr (.inr (fresh_back e1 hb))
    · exact .inr (.inr (fresh_back e1 h0))
    · exact .inl (by simp [RA.cs, hc])
def spTakeTo (CR CO CL : Addr) : Sp := fun vs H Q E => ∃ (R : RA) (st : Rd) (wl : Addr) (ws : List Str) (line : Int) (N : Nat), vs = [.ref R.r, .int line, .ref wl] ∧ LineAt CR CO H R st wl ws N ∧ ws[0]? = some ("to" : Str) ∧ Post CR CO CL R wl (takeTo st ws) line H Q E
theorem two_words {ws : List Str} {x : Str} (hl : ws.length = 2) (h : ws[0]? = some x) : ws = [x, word1 ws] := by
  match ws, hl, h with
  | [a, b], _, h =>
    cases (Option.some.inj h : a = x)
    rfl
section
variable {P : Program} {w : World} {K : PySem.W.Frag} {mg : Str → Option Value} {base : Heap} {a : Ads}
theorem rd_len {σ : L2.St} {H : Hp} {R : RA} {st : Rd} {te : TE} (T : Txt K mg w a) (h : RdOk a.cR a.cO H R st) (hv : Ev te σ H (.ref R.r)) : Ev (tCB (rLenS K) (tCons (tFld K te "tower") tNil)) σ H (.int (st.tw.length : Nat)) := by
  obtain ⟨dx, nv, h1⟩ := h.ins0
  have := ev_len (K := K) (ev_fld hv h1 T.cl_Reader T.n_Reader_tower rfl) (sq_of h.tw)
  rw [List.length_reverse, List.length_map, h.op.len] at this
  exact this
theorem dec_eqN (m : Nat) (n : Nat) : decide ((m : Int) = (n : Int)) = decide (m = n) := by
  by_cases h : m = n
  · rw [decide_eq_true h]
    exact decide_eq_true (by omega)
  · rw [decide_eq_false h]
    exact decide_eq_false (by omega)
theorem c_TakeTo (T : Txt K mg w a) : MetG (CXX P w) P w K mg base 5 a.cR "take_procedure" (spTakeTo a.cR a.cO a.cBL) [] := by
  have M_Reader_fail : MetG (CXX P w) P w K mg base 3 a.cR "fail" (spRFail a.cR a.cBL) [] := c_RFail T
  have M_Reader_need_size : MetG (CXX P w) P w K mg base 4 a.cR "need_size" (spNeedSize a.cR a.cBL) [] := c_NeedSize T
  have M_Reader_known : MetG CX0 P w K mg base 1 a.cR "known" (spKnown a.cR a.cO) [] := c_Known T
  have C_is_name : CalG CX0 P w K mg base 1 "is_name" spIsName [] := c_is_name T
  have K_Open_d : MakG CX0 P w K mg base 1 "Open" a.cO (spOpenI a.cO) [.non] := (b_Open T).2
  obtain ⟨f, fd, D, hm⟩ := T.m_Reader_take_procedure
  refine ⟨f, fd, _, [], T.cl_Reader, hm, D.ok sc_Reader_take_procedure (fun vs H Q E h => ?_) (fun cdv A outer s H vs Q E hr h => ⟨_, (pss_cons (ps_if (PW.pt (pw_or (pt_val (pe_fld (pv 0) rfl)) (pw_or (pt_cmpR op_gt (pe_callB call_len_seq (by rfl) T.b_len (by decide +kernel) (pa_cons (pe_fld (pv 0) rfl) pa_nil)) pe_int (nomark _)) (pw_or1 (pt_cmpR op_eq (pe_callB call_len_seq (by rfl) T.b_len (by decide +kernel) (pa_cons (pe_fld (pv 0) rfl) pa_nil)) (C8.pe_gc (by rfl) T.g_MOST_PROCEDURES) (nomark _)))))) (pss_one (ps_expr (pe_mX M_Reader_fail hr (by omega) (passes_call (takes_of rfl rfl rfl rfl) (fun _ _ _ _ h => h)) (pv 0) (pa_cons (pv 1) (pa_cons pe_int pa_nil))))) pss_nil)
      (pss_cons (ps_if (PW.pt (pw_and (pt_cmpR op_gt (pe_callB call_len_seq (by rfl) T.b_len (by decide +kernel) (pa_cons (pv 2) pa_nil)) pe_int (nomark _)) (pw_and1 (PW.pt (pw_or (pt_not (pt_val (pe_f0 C_is_name hr (by omega) (by rfl) (pa_cons (pe_ix ix_list (pv 2) pe_int (fun _ _ => rfl)) pa_nil)))) (pw_or1 (pt_cmpR op_in_seq (pe_ix ix_list (pv 2) pe_int (fun _ _ => rfl)) (pe_m00 M_Reader_known hr (by omega) (pv 0)) (by rfl)))))))) (pss_one (ps_expr (pe_mX M_Reader_fail hr (by omega) (passes_call (takes_of rfl rfl rfl rfl) (fun _ _ _ _ h => h)) (pv 0) (pa_cons (pv 1) (pa_cons pe_int pa_nil))))) pss_nil)
      (pss_cons (ps_expr (pe_mX M_Reader_need_size hr (by omega) (passes_call (takes_of rfl rfl rfl rfl) (fun _ _ _ _ h => h)) (pv 0) (pa_cons (pv 1) (pa_cons (pv 2) (pa_cons pe_int pa_nil)))))
      (pss_one (ps_expr (pe_bm PySem.F.plainAttrs_list PySem.F.slot_list_append PySem.F.type_list_append mt_append (pe_fld (pv 0) rfl) (pa_cons (pe_k K_Open_d hr (by omega) (by rfl) (pa_cons (pv 2) pa_nil)) pa_nil))))))), ?_⟩), D.bindsN (fun _ _ _ _ _ _ us hl => match us, hl with | [_, _, _], _ => rfl), .nil⟩
  · obtain ⟨R, st, wl, ws, line, N, rfl, _⟩ := h
    rfl
  · obtain ⟨R, st, wl, ws, line, N, rfl, L, h0, k⟩ := h
    have hw := L.wl_
    obtain ⟨dx, nv, h1⟩ := L.rd.ins0
    obtain ⟨pvs, h3, h4⟩ := L.rd.pr
    have hpl : pvs.length = st.procs.length := by rw [h4.len, List.length_map]
    have hpN := L.pr
    have hfew := L.few
    unfold takeTo at k
    refine q_when (b := decide (st.begun = true ∨ 1 < st.tw.length ∨ st.procs.length = 4)) (et_is (et_or (a := st.begun) (b := (decide (1 < st.tw.length) || decide (st.procs.length = 4))) (et_test (ev_fld (ev_var rfl) h1 T.cl_Reader T.n_Reader_has_begun rfl)) fun _ =>
        et_or (et_is (et_test (ev_op (rd_len T L.rd (ev_var rfl)) ev_c rv_I0)) (dec_lt 1 _)) fun _ => et_test (ev_eqI (ev_len (ev_fld (ev_var rfl) h1 T.cl_Reader T.n_Reader_procedures rfl) (sq_of h3)) ev_c (by rw [hpl]; exact dec_eqN _ 4))) (by
        cases st.begun with
        | true => exact (decide_eq_true (.inl rfl)).symm
        | false =>
          rw [Bool.false_or]
          by_cases h1 : 1 < st.tw.length
          · rw [decide_eq_true h1]
            exact (decide_eq_true (.inr (.inl h1))).symm
          · rw [decide_eq_false h1, Bool.false_or]
            by_cases h2 : st.procs.length = 4
            · rw [decide_eq_true h2]
              exact (decide_eq_true (.inr (.inr h2))).symm
            · rw [decide_eq_false h2]
              exact (decide_eq_false fun z => z.elim (fun z => nomatch z) fun z => z.elim h1 h2).symm)) (fun h H1 e1 => ?_) (fun h H1 e1 => ?_)
    · rw [if_pos (of_decide_eq_true h)] at k
      exact s_out (a_rfail (ev_var rfl) (L.rd.insR.ex e1) (ea_cons (ev_var rfl) (ea_cons ev_c ea_nil)) ((k.err rfl).ex e1))
    · rw [if_neg (of_decide_eq_false h)] at k
      refine q_when (b := badTo st ws) (by
          cases hx : ws[1]? with
          | none =>
            have hl := List.getElem?_eq_none_iff.mp hx
            refine et_is (et_and (a := false) (b := false) (et_is (et_test (ev_op (wlen (ev_var rfl) (e1 _ _ hw)) ev_c rv_I0)) (decide_eq_false (by omega))) fun h => nomatch h) ?_
            match ws, hx with
            | [], _ => rfl
            | [_], _ => rfl
          | some x =>
            have hl := (List.getElem?_eq_some_iff.mp hx).1
            have hxo := L.ok.2 x (List.mem_of_getElem? hx)
            refine et_is (et_and (a := true) (b := (!isName x || decide (x ∈ known st))) (et_is (et_test (ev_op (wlen (ev_var rfl) (e1 _ _ hw)) ev_c rv_I0)) (decide_eq_true (by omega))) fun _ => et_or (et_not (et_B (ev_call (ea_cons (wat (ev_var rfl) (e1 _ _ hw) ev_c hx) ea_nil) fun H4 e4 Q' q E' => ⟨x, rfl, hxo.2, hxo.1, q⟩))) fun _ =>
              et_test (ev_opL (wat (ev_var rfl) (e1 _ _ hw) ev_c hx) (el_meth0 (ev_var rfl) (e1 _ _ h1) rfl fun H4 e4 Q' q => ⟨R, st, rfl, L.rd.ex (e1.trans e4), by omega, q⟩) fun p H4 hp e4 => rv_inLs (sq_of hp))) ?_
            match ws, hx with
            | _ :: y :: r, hx =>
              cases (Option.some.inj hx : y = x)
              rfl) (fun h H2 e2 => ?_) (fun h H2 e2' => ?_)
      · rw [if_pos h] at k
        exact s_out (a_rfail (ev_var rfl) (L.rd.insR.ex (e1.trans e2)) (ea_cons (ev_var rfl) (ea_cons ev_c ea_nil)) ((k.err rfl).ex (e1.trans e2)))
      · rw [if_neg (by rw [h]; exact Bool.false_ne_true)] at k
        have e2 := e1.trans e2'
        refine q_need (n := 2) (ev_var rfl) (L.rd.insR.ex e2) (e2 _ _ hw) (ea_cons (ev_var rfl) (ea_cons (ev_var rfl) (ea_cons ev_c ea_nil))) (fun hl H3 e3' => ?_) fun e he => (k.err (he _)).ex e2
        have e3 := e2.trans e3'
        have L3 := L.ex e3
        have htl := L.rd.op.len
        have htN := L.tw
        refine s_appO L3.rd.tw (by rw [List.length_reverse, List.length_map]; omega) (ev_fld (ev_var rfl) (e3 _ _ h1) T.cl_Reader T.n_Reader_tower rfl) (ea_cons (ev_var rfl) ea_nil) rfl fun o ba b0 dx2 H4 H5 e4 e5 n1 n2 n3 m1 m2 m3 g1 g2 g3 => ?_
        obtain ⟨r1, r2⟩ := L3.push (kd := .to (word1 ws)) e4 e5 n1 n2 n3 m1 m2 m3 g1 g2 g3 (two_words hl h0)
        refine k.ok (by rw [needSize, if_neg (by omega), if_neg (by omega)]) { R with ops := ⟨o, wl, ba, [b0]⟩ :: R.ops } _ rfl (Same.trans (.of_ex ((e3.trans e4).trans e5)) (.upd (by simp [RA.cs]))) r1 fun c hc => ?_
        rcases r2 c hc with q | q | q
        · exact .inl q
        · exact .inr (.inl q)
        · exact .inr (.inr (fresh_back e3 q))
end
end RS
end
section
set_option Elab.async false
set_option linter.all false
set_option maxRecDepth 100000
set_option maxHeartbeats 4000000
/-! W16: close, take_turn. -/
namespace RS
open PySem L2 TL Evl
/-! ### the blocks of an open part, as new tuples -/
def rTup (K : PySem.W.Frag) : List V → Hp → VK → Prop := fun xs H Q => ∃ p ys, xs = [.ref p] ∧ ((SqL K H p ys ∧ ∀ l, H l = none → Q (.ref l) (upd H l (.tup ys))) ∨ (SqT K H p ys ∧ Q (.ref p) H))
def BlkL (H : Hp) : List Addr → List (List Pt) → Prop
  | [], ls => ls = []
  | b :: bs, ls => ∃ l r, ls = l :: r ∧ BlkOk H b l ∧ BlkL H bs r
theorem BlkL.len {H : Hp} : ∀ {bs : List Addr} {ls : List (List Pt)}, BlkL H bs ls → bs.length = ls.length
  | [], _, h => by rw [show _ = _ from h]; rfl
  | b :: bs, ls, h => by
    obtain ⟨l, r, e, _, h2⟩ := h
    rw [e, List.length_cons, List.length_cons, BlkL.len h2]
theorem BlkL.get {H : Hp} : ∀ {bs : List Addr} {ls : List (List Pt)} {i : Nat} {b : Addr}, BlkL H bs ls → bs[i]? = some b → ∃ l, ls[i]? = some l ∧ BlkOk H b l
  | [], _, i, b, h, e => by simp at e
  | c :: bs, ls, i, b, h, e => by
    obtain ⟨l, r, rfl, h1, h2⟩ := h
    cases i with
    | zero =>
      cases (Option.some.inj e : c = b)
      exact ⟨l, rfl, h1⟩
    | succ i => exact BlkL.get (i := i) h2 e
def Op.bls (o : Op) : List (List Pt) := match o.dn with
  | none => [o.cu]
  | some d => [d, o.cu]
theorem BlksOk.bl {H : Hp} {bs : List Addr} {op : Op} (h : BlksOk H bs op) : BlkL H bs op.bls := by
  unfold BlksOk at h
  unfold Op.bls
  cases hd : op.dn with
  | none =>
    rw [hd] at h
    obtain ⟨b, rfl, h⟩ := h
    exact ⟨_, _, rfl, h, rfl⟩
  | some d =>
    rw [hd] at h
    obtain ⟨b, c, rfl, h1, h2⟩ := h
    exact ⟨_, _, rfl, h1, _, _, rfl, h2, rfl⟩
section
variable {K : PySem.W.Frag} {σ : L2.St} {H : Hp} {tl' : TE} {D : Ends} {tz : TS}
/-- [tuple(block) for block in blocks] -/
theorem q_tups {i j : Nat} {ba : Addr} {bs : List Addr} {ls : List (List Pt)} (h : Ev tl' σ H (.ref ba)) (hb : H ba = some (.lst (bs.map V.ref))) (hl : BlkL H bs ls) (hz : bs.length ≤ 1000) (hw : ∀ x, wipe ((wipe σ [j]).set j (some x)) [j] = wipe σ [j])
    (hv : ∀ x, ((wipe σ [j]).set j (some x))[j]? = some (some x)) (k : ∀ p ys H1, H p = none → Ex H H1 → H1 p = some (.lst ys) → TdL H1 (ls.map eB) ys → tz D (σ.set i (some (.ref p))) H1) :
    tSeq (tAsg (tLc (iList K tl') (gName j) tYes (tCB (rTup K) (tCons (tVar j) tNil)) [j]) (gName i)) tz D σ H := by
  refine h H (Ex.refl H) _ fun H1 e1 => ⟨ba, rfl, ⟨bs.map V.ref, sq_of (e1 _ _ hb)⟩, fun Dl hD => ?_⟩
  refine lc_list (xs := bs.map V.ref) (fun n H' => H1 Dl = none ∧ Ex H1 H' ∧ ∃ ys, H' Dl = some (.lst ys) ∧ ys.length = n ∧ TdL H' ((ls.take n).map eB) ys) ⟨hD, Ex.new hD, [], upd_same, rfl, rfl⟩ (fun n H' _ p => sq_of (p.2.1 _ _ (e1 _ _ hb))) (fun n x H' hi p => ?_) (fun H' p => ?_)
  · rw [List.getElem?_map] at hi
    cases hbn : bs[n]? with
    | none =>
      rw [hbn] at hi
      cases hi
    | some b =>
      rw [hbn] at hi
      cases hi
      obtain ⟨l, h1, vs, h2, h3⟩ := hl.get hbn
      obtain ⟨p1, p2, ys, p3, p4, p5⟩ := p
      have e2 := e1.trans p2
      have hn := (List.getElem?_eq_some_iff.mp hbn).1
      refine ⟨hw _, ?_⟩
      refine ⟨_, hv _, b, vs, rfl, .inl ⟨sq_of (e2 _ _ h2), fun t ht => ?_⟩⟩
      have e3 := Ex.new (o := .tup vs) ht
      have htd : t ≠ Dl := fresh_ne p3 ht
      refine ⟨ys, e3 _ _ p3, sz_lt (by omega), p1, (p2.trans e3).mut p1, _, upd_same, by rw [List.length_append, p4]; rfl, ?_⟩
      have k1 : TK H' (upd (upd H' t (.tup vs)) Dl (.lst (ys ++ [.ref t]))) := TK.upd (TK.of e3) p3 (fun xs z => nomatch z)
      rw [List.take_add_one, h1, List.map_append]
      refine TdL.append (TdL.tk k1 _ _ p5) (TdL.one ⟨t, vs, rfl, ?_, ?_⟩)
      · rw [upd_ne htd]
        exact upd_same
      · exact TdL.tk k1 _ _ (h3.ex e2)
  · obtain ⟨p1, p2, ys, p3, p4, p5⟩ := p
    rw [List.length_map, hl.len, List.take_length] at p5
    exact k Dl ys H' (fresh_back e1 p1) (e1.trans p2) p3 p5
theorem q_pop {i : Nat} {l : Addr} {xs : List V} {v : V} (h : Ev tl' σ H (.ref l)) (hl : H l = some (.lst (xs ++ [v]))) (k : ∀ H1, Ex H H1 → tz D (σ.set i (some v)) (upd H1 l (.lst xs))) : tSeq (tAsg (tBM0 K "list" rPop tl') (gName i)) tz D σ H :=
  h H (Ex.refl H) _ fun H1 e1 => ⟨Or.inl ⟨rfl, _, sq_of (e1 _ _ hl)⟩, l, _, v, rfl, rfl, e1 _ _ hl, by simp, by
    rw [List.dropLast_concat]
    exact k H1 e1⟩
theorem s_appIf {ta t1 t2 t3 t4 : TE} {l : Addr} {xs : List V} {c x y : V} {d : Dt} (hl : H l = some (.lst xs)) (hz : xs.length < 100000) (ha : Ev ta σ H (.ref l)) (h1 : Ev t1 σ H c) (h2 : Ev t2 σ H x) (h3 : Ev t3 σ H y)
    (h4 : ∀ H1, Ex H H1 → ∀ Q : VK, (∀ v H2, Ex H1 H2 → Td H2 d v → Q v H2) → t4 σ H1 Q) (k : ∀ p v H1, Ex H H1 → H1 p = some (.tup [c, x, y, v]) → Td H1 d v → D.nx σ (upd H1 l (.lst (xs ++ [.ref p])))) :
    tDrop (tBM K "list" rAppend ta (tCons (tTup (tCons t1 (tCons t2 (tCons t3 (tCons t4 tNil))))) tNil)) D σ H :=
  ha H (Ex.refl H) _ fun H1 e1 => ⟨Or.inl ⟨rfl, xs, sq_of (e1 l _ hl)⟩, h1 H1 e1 _ fun H2 e2 => h2 H2 (e1.trans e2) _ fun H3 e3 => h3 H3 ((e1.trans e2).trans e3) _ fun H4 e4 => h4 H4 (((e1.trans e2).trans e3).trans e4) _ fun v H5 e5 hv =>
    ⟨by show 4 ≤ sizeLine; exact sz_of (by decide), fun p hp => by
      have e := ((((e1.trans e2).trans e3).trans e4).trans e5).trans (Ex.new (o := .tup [c, x, y, v]) hp)
      exact ⟨l, xs, .ref p, rfl, rfl, e _ _ hl, sz_lt hz, k p v _ e upd_same (hv.ex (Ex.new hp))⟩⟩⟩
theorem ev_neg1 : Ev (tUn (rU fun i => .int (-i)) (tC (.int 1))) σ H (.int (-1)) := ev_un ev_c ru_neg
end
def spClose (CR CO : Addr) : Sp := fun vs H Q _ => ∃ (R : RA) (st : Rd), vs = [.ref R.r] ∧ RdOk CR CO H R st ∧ 2 ≤ st.tw.length ∧ (∀ op, st.tw.head? = some op → op.kd ≠ .prog) ∧ st.procs.length ≤ 50000 ∧ (∀ op ∈ st.tw, op.cu.length ≤ 50000) ∧
  ∀ R' H', R'.r = R.r → Same R.cs H H' → RdOk CR CO H' R' (closeR st) → (∀ c ∈ R'.cs, c ∈ R.cs) → Q .non H'
theorem bls_0 (op : Op) : op.bls[0]? = some op.b0 := by
  unfold Op.bls Op.b0
  cases op.dn <;> rfl
theorem bls_1 (op : Op) : (op.bls[1]?).getD [] = op.b1 ∧ decide (1 < op.bls.length) = op.dn.isSome ∧ (op.dn.isSome = true → op.bls[1]? = some op.b1) := by
  unfold Op.bls Op.b1
  cases op.dn with
  | none => exact ⟨rfl, rfl, fun h => nomatch h⟩
  | some d => exact ⟨rfl, rfl, fun _ => rfl⟩
section
variable {P : Program} {w : World} {K : PySem.W.Frag} {mg : Str → Option Value} {base : Heap} {a : Ads}
/-- self.tower[-1] -/
theorem ev_top {σ : L2.St} {H : Hp} {R : RA} {st : Rd} {A : OpA} {ops : List OpA} {te : TE} (T : Txt K mg w a) (h : RdOk a.cR a.cO H R st) (hA : R.ops = A :: ops) (hv : Ev te σ H (.ref R.r)) : Ev (tOp (rIxL K) (tFld K te "tower") (tUn (rU fun i => .int (-i)) (tC (.int 1)))) σ H (.ref A.o) := by
  obtain ⟨dx, nv, h1⟩ := h.ins0
  refine ev_op (ev_fld hv h1 T.cl_Reader T.n_Reader_tower rfl) ev_neg1 (rv_ixL (sq_of h.tw) ?_)
  rw [hA, List.map_cons, List.reverse_cons]
  exact atI_last _ _
/-- x.blocks[-1] -/
theorem ev_lastB {σ : L2.St} {H : Hp} {A : OpA} {op : Op} {te : TE} (T : Txt K mg w a) (h : OpOk a.cO H A op) (hv : Ev te σ H (.ref A.o)) : ∃ b vs, A.bs.getLast? = some b ∧ H b = some (.lst vs) ∧ vs.length = op.cu.length ∧ Ev (tOp (rIxL K) (tFld K te "blocks") (tUn (rU fun i => .int (-i)) (tC (.int 1)))) σ H (.ref b) := by
  obtain ⟨dx, tv, ws, g1, g2, g3⟩ := h.ins
  have hb := h.bl
  have hk := h.bk
  have key : ∀ (l : List Addr) (b : Addr), A.bs = l ++ [b] → Ev (tOp (rIxL K) (tFld K te "blocks") (tUn (rU fun i => .int (-i)) (tC (.int 1)))) σ H (.ref b) := fun l b e => by
    refine ev_op (ev_fld hv g1 T.cl_Open T.n_Open_blocks rfl) ev_neg1 (rv_ixL (sq_of hb) ?_)
    rw [e, List.map_append]
    exact atI_last _ _
  unfold BlksOk at hk
  cases hd : op.dn with
  | none =>
    rw [hd] at hk
    obtain ⟨b, e, vs, h1, h2⟩ := hk
    exact ⟨b, vs, by rw [e]; rfl, h1, by rw [h2.len, ePs_map, List.length_map], key [] b e⟩
  | some d =>
    rw [hd] at hk
    obtain ⟨b, c, e, _, vs, h1, h2⟩ := hk
    exact ⟨c, vs, by rw [e]; rfl, h1, by rw [h2.len, ePs_map, List.length_map], key [b] c e⟩
theorem tdl_at {H : Hp} {ds : List Dt} {xs : List V} {i : Nat} {d : Dt} (h : TdL H ds xs) (e : ds[i]? = some d) : ∃ x, xs[i]? = some x ∧ Td H d x := by
  have hl := h.len
  have hi := (List.getElem?_eq_some_iff.mp e).1
  obtain ⟨x, hx⟩ : ∃ x, xs[i]? = some x := ⟨_, List.getElem?_eq_getElem (by omega)⟩
  obtain ⟨d', h1, h2⟩ := h.get hx
  rw [e] at h1
  cases h1
  exact ⟨x, hx, h2⟩
theorem c_Close (T : Txt K mg w a) : MetG CX0 P w K mg base 1 a.cR "close" (spClose a.cR a.cO) [] := by
  obtain ⟨f, fd, D, hm⟩ := T.m_Reader_close
  refine ⟨f, fd, _, [], T.cl_Reader, hm, D.ok sc_Reader_close (fun vs H Q E h => ?_) (fun cdv A outer s H vs Q E hr h => ⟨_, PSs.nox ((pss_cons (ps_set (i := 1) sc_Reader_close.nd rfl (Or.inl rfl) (pe_bm0 PySem.F.plainAttrs_list PySem.F.slot_list_pop PySem.F.type_list_pop mt_pop (pe_fld (pv 0) rfl)))
      (pss_cons (ps_setLc (i := 2) (own := [("block", 3)]) rfl sc_Reader_close.nd rfl rfl (sw_true rfl rfl rfl (by decide +kernel)) (pi_list (pe_fld (pv 1) rfl)) (blkOk_by (N := ["self", "top", "blocks", "block", "word"]) (sc := defScope st_Reader_close) (by decide +kernel)) (fun _ _ _ _ _ => (pg_name (i := 3) sc_Reader_close.nd rfl (Or.inl rfl))) (fun _ _ _ _ _ => pts_nil) (fun _ _ _ _ _ => (pe_callTy (call_tuple_ofK (K := K) rfl) (by rfl) T.b_tuple (by decide +kernel) (pa_cons (pv 3) pa_nil))))
      (pss_cons (ps_set (i := 4) sc_Reader_close.nd rfl (Or.inl rfl) (pe_ix ix_list (pe_fld (pv 1) rfl) pe_int (fun _ _ => rfl)))
      (pss_one (ps_if (pt_cmpR op_eq (pv 4) pe_str (nomark _)) (pss_one (ps_expr (pe_bm PySem.F.plainAttrs_list PySem.F.slot_list_append PySem.F.type_list_append mt_append (pe_fld (pv 0) rfl) (pa_cons (pe_tup (pa_cons (pe_ix ix_list (pe_fld (pv 1) rfl) pe_int (fun _ _ => rfl)) (pa_cons (pe_ix ix_list (pv 2) pe_int (fun _ _ => rfl)) pa_nil))) pa_nil)))) (pss_one (ps_if (pt_cmpR op_eq (pv 4) pe_str (nomark _)) (pss_one (ps_expr (pe_bm PySem.F.plainAttrs_list PySem.F.slot_list_append PySem.F.type_list_append mt_append (pe_ix ix_list (pe_fld (pe_ix ix_list (pe_fld (pv 0) rfl) (pe_un un_neg pe_int) (fun _ _ => rfl)) rfl) (pe_un un_neg pe_int) (fun _ _ => rfl)) (pa_cons (pe_tup (pa_cons pe_str (pa_cons (pe_callTy call_int_str (by rfl) T.b_int (by decide +kernel) (pa_cons (pe_ix ix_list (pe_fld (pv 1) rfl) pe_int (fun _ _ => rfl)) pa_nil)) (pa_cons (pe_ix ix_list (pv 2) pe_int (fun _ _ => rfl)) pa_nil)))) pa_nil)))) (pss_one (ps_if (pt_cmpR op_eq (pv 4) pe_str (nomark _)) (pss_one (ps_expr (pe_bm PySem.F.plainAttrs_list PySem.F.slot_list_append PySem.F.type_list_append mt_append (pe_ix ix_list (pe_fld (pe_ix ix_list (pe_fld (pv 0) rfl) (pe_un un_neg pe_int) (fun _ _ => rfl)) rfl) (pe_un un_neg pe_int) (fun _ _ => rfl)) (pa_cons (pe_tup (pa_cons pe_str (pa_cons (pe_fld (pv 1) rfl) (pa_cons (pe_ix ix_list (pv 2) pe_int (fun _ _ => rfl)) pa_nil)))) pa_nil)))) (pss_one (ps_expr (pe_bm PySem.F.plainAttrs_list PySem.F.slot_list_append PySem.F.type_list_append mt_append (pe_ix ix_list (pe_fld (pe_ix ix_list (pe_fld (pv 0) rfl) (pe_un un_neg pe_int) (fun _ _ => rfl)) rfl) (pe_un un_neg pe_int) (fun _ _ => rfl)) (pa_cons (pe_tup (pa_cons pe_str (pa_cons (pe_fld (pv 1) rfl) (pa_cons (pe_ix ix_list (pv 2) pe_int (fun _ _ => rfl)) (pa_cons (pe_ifExp (pt_cmpR op_gt (pe_callB call_len_seq (by rfl) T.b_len (by decide +kernel) (pa_cons (pv 2) pa_nil)) pe_int (nomark _)) (pe_ix ix_list (pv 2) pe_int (fun _ _ => rfl)) (pe_tup pa_nil)) pa_nil))))) pa_nil)))))))))))))), ?_⟩), D.bindsN (fun _ _ _ _ _ _ us hl => match us, hl with | [_], _ => rfl), .nil⟩
  · obtain ⟨R, st, rfl, _⟩ := h
    rfl
  · obtain ⟨R, st, rfl, hR, h2, hkd, hp5, hcu, k⟩ := h
    obtain ⟨dx, nv, h1⟩ := hR.ins0
    have hlen := hR.op.len
    cases hops : R.ops with
    | nil =>
      rw [hops, List.length_nil] at hlen
      omega
    | cons A ops =>
    cases htw : st.tw with
    | nil =>
      rw [htw, List.length_nil] at h2
      omega
    | cons op tw =>
    rw [htw] at h2 hkd hcu hlen
    rw [hops] at hlen
    have hkd1 := hkd op rfl
    -- the top is taken
    have htow := hR.tw
    rw [hops, List.map_cons, List.reverse_cons] at htow
    refine q_pop (ev_fld (ev_var rfl) h1 T.cl_Reader T.n_Reader_tower rfl) htow fun H1 e1 => ?_
    have hR1 := hR.ex e1
    obtain ⟨q1, q2⟩ := hR1.pop hops htw
    generalize hH2 : upd H1 R.ta (.lst ((ops.map fun A => V.ref A.o).reverse)) = H2
    rw [hH2] at q1 q2
    have hs2 : Same R.cs H H2 := by
      rw [← hH2]
      exact Same.trans (.of_ex e1) (.upd (by simp [RA.cs]))
    obtain ⟨dxo, tv, ws, g1, g2, g3⟩ := q2.ins
    have hw0 := kd_w0 g3
    have hbl := q2.bk.bl
    have hbsl : A.bs.length ≤ 2 := by
      rw [hbl.len]
      unfold Op.bls
      cases op.dn <;> simp
    refine q_tups (bs := A.bs) (ev_fld (ev_var rfl) g1 T.cl_Open T.n_Open_blocks rfl) q2.bl hbl (by omega) (fun x => rfl) (fun x => rfl) fun bl ys H3 hbl0 e3 hbl3 hys => ?_
    have hb0 : (op.bls.map eB)[0]? = some (eB op.b0) := by rw [List.getElem?_map, bls_0]; rfl
    obtain ⟨y0, hy0, hty0⟩ := tdl_at hys hb0
    have hylen : ys.length = op.bls.length := by rw [hys.len, List.length_map]
    refine q_asg (wat (ev_fld (ev_var rfl) (e3 _ _ g1) T.cl_Open T.n_Open_words rfl) (e3 _ _ g2) ev_c (i := 0) hw0) fun H4 e4' => ?_
    have e4 := e3.trans e4'
    have q4 := q1.ex e4
    have hs4 : Same R.cs H H4 := hs2.trans (.of_ex e4)
    have hcs : ∀ c ∈ ({ R with ops := ops } : RA).cs, c ∈ R.cs := fun c hc => by
      simp only [RA.cs, List.mem_cons] at hc ⊢
      rcases hc with q | q | q | q
      · exact .inl q
      · exact .inr (.inl q)
      · exact .inr (.inr (.inl q))
      · refine .inr (.inr (.inr ?_))
        rw [hops]
        exact List.mem_append_right _ q
    have hcl : ∀ p, (match op.kd with | .to _ => False | .prog => False | .rep n => p = .rep n op.b0 | .whl s z => p = .whl s z op.b0 | .iff s z => p = .ifP s z op.b0 op.b1) → closeR st = { st with tw := addP p tw } := fun p h => by
      unfold closeR
      rw [htw]
      dsimp only
      cases hk : op.kd with
      | prog => rw [hk] at h; exact h.elim
      | to x => rw [hk] at h; exact h.elim
      | rep n => rw [hk] at h; dsimp only at h ⊢; rw [h]
      | whl s z => rw [hk] at h; dsimp only at h ⊢; rw [h]
      | iff s z => rw [hk] at h; dsimp only at h ⊢; rw [h]
    -- a part is put into the block below
    obtain ⟨B, ops', rfl⟩ : ∃ B ops', ops = B :: ops' := by
      cases ops with
      | nil =>
        simp only [List.length_cons, List.length_nil] at hlen h2
        omega
      | cons B ops' => exact ⟨B, ops', rfl⟩
    obtain ⟨op2, tw2, rfl⟩ : ∃ op2 tw2, tw = op2 :: tw2 := by
      cases tw with
      | nil =>
        simp only [List.length_cons, List.length_nil] at hlen h2
        omega
      | cons B ops' => exact ⟨B, ops', rfl⟩
    have hput : ∀ (H5 : Hp), Ex H4 H5 → ∀ (σ : L2.St), σ[0]? = some (some (.ref R.r)) → ∃ b vs, H5 b = some (.lst vs) ∧ vs.length < 100000 ∧
        Ev (tOp (rIxL K) (tFld K (tOp (rIxL K) (tFld K (tVar 0) "tower") (tUn (rU fun i => .int (-i)) (tC (.int 1)))) "blocks") (tUn (rU fun i => .int (-i)) (tC (.int 1)))) σ H5 (.ref b) ∧
        ∀ (H6 : Hp) (v : V) (p : Pt), Ex H5 H6 → Td H6 (eP p) v → closeR st = { st with tw := addP p (op2 :: tw2) } → Q .non (upd H6 b (.lst (vs ++ [v]))) := fun H5 e5 σ hσ => by
      have q5 := q4.ex e5
      have hop5 := q5.op
      obtain ⟨o', l', e, r1, r2⟩ := hop5
      cases e
      obtain ⟨b, vs, b1, b2, b3, b4⟩ := ev_lastB (σ := σ) T r1 (ev_top T q5 rfl (ev_var hσ))
      have hc2 := hcu op2 (by simp)
      refine ⟨b, vs, b2, by omega, b4, fun H6 v p e6 hp hc => ?_⟩
      have hbm : b ∈ R.cs := by
        rw [RA.cs, hops]
        simp [opsC, OpA.cs, List.mem_of_getLast? b1]
      refine k { R with ops := B :: ops' } _ rfl ((hs4.trans (.of_ex (e5.trans e6))).trans (.upd hbm)) ?_ hcs
      rw [hc]
      exact RdOk.addP (q5.ex e6) rfl rfl b1 (e6 _ _ b2) hp
    cases hk : op.kd with
    | prog => exact absurd hk hkd1
    | to x =>
      rw [hk] at hw0 g3
      have hws : ws = (["to", x] : List Str) := g3
      have hw1 : ws[1]? = some x := by rw [hws]; rfl
      refine s_if (b := true) (et_w (ev_var rfl) (by exact decide_eq_true rfl)) (fun _ H5 e5' => ?_) fun h => nomatch h
      have e5 := e4.trans e5'
      have q5 := q4.ex e5'
      obtain ⟨pvs, p1, p2⟩ := q5.pr
      obtain ⟨dx5, nv5, p3⟩ := q5.ins0
      have hpl : pvs.length = st.procs.length := by rw [p2.len, List.length_map]
      refine s_appU p1 (ev_fld (ev_var rfl) p3 T.cl_Reader T.n_Reader_procedures rfl) (eu_tup (ea_cons (wat (ev_fld (ev_var rfl) (e5 _ _ g1) T.cl_Open T.n_Open_words rfl) (e5 _ _ g2) ev_c (i := 1) hw1) (ea_cons (ev_op (ev_var rfl) ev_c (rv_ixL (sq_of ((e4'.trans e5') _ _ hbl3)) (atI_nat (j := 0) hy0))) ea_nil)) (by simp)) (by omega) fun t H6 _ e6 ht => ?_
      refine k { R with ops := B :: ops' } _ rfl ((hs4.trans (.of_ex (e5'.trans e6))).trans (.upd (by simp [RA.cs]))) ?_ hcs
      have hc : closeR st = { st with procs := st.procs ++ [(x, op.b0)], tw := op2 :: tw2 } := by
        unfold closeR
        rw [htw]
        dsimp only
        rw [hk]
      rw [hc]
      exact RdOk.setP (q5.ex e6) (e6 _ _ p1) (q := (x, op.b0)) ⟨t, _, rfl, ht, _, _, rfl, rfl, _, _, rfl, hty0.ex ((e4'.trans e5').trans e6), rfl⟩ rfl
    | rep n =>
      rw [hk] at g3
      obtain ⟨x, hws, hx, hxl⟩ := g3
      have hw1 : ws[1]? = some x := by rw [hws]; rfl
      refine s_if (b := false) (et_w (ev_var rfl) (by exact (by decide +kernel : decide (("repeat" : Str) = "to") = false))) (fun h => nomatch h) fun _ H5 e5' => ?_
      refine s_if (b := true) (et_w (ev_var rfl) (by exact decide_eq_true rfl)) (fun _ H6 e6' => ?_) fun h => nomatch h
      have e6 := e4.trans (e5'.trans e6')
      obtain ⟨b, vs, b1, b2, b3, b4⟩ := hput H6 (e5'.trans e6') [some (.ref R.r), some (.ref A.o), some (.ref bl), none, some (.str "repeat")] rfl
      refine s_appU b1 b3 (eu_tup (ea_cons ev_c (ea_cons (ev_intS (wat (ev_fld (ev_var rfl) (e6 _ _ g1) T.cl_Open T.n_Open_words rfl) (e6 _ _ g2) ev_c (i := 1) hw1) hx hxl) (ea_cons (ev_op (ev_var rfl) ev_c (rv_ixL (sq_of ((e4'.trans (e5'.trans e6')) _ _ hbl3)) (atI_nat (j := 0) hy0))) ea_nil))) (by simp)) b2 fun t H7 _ e7 ht => ?_
      refine b4 H7 (.ref t) (.rep n op.b0) e7 ?_ (hcl _ (by rw [hk]))
      rw [eP]
      exact ⟨t, _, rfl, ht, _, _, rfl, rfl, _, _, rfl, rfl, _, _, rfl, hty0.ex ((e4'.trans (e5'.trans e6')).trans e7), rfl⟩
    | whl s z =>
      rw [hk] at g3
      refine s_if (b := false) (et_w (ev_var rfl) (by exact (by decide +kernel : decide (("while" : Str) = "to") = false))) (fun h => nomatch h) fun _ H5 e5' => ?_
      refine s_if (b := false) (et_w (ev_var rfl) (by exact (by decide +kernel : decide (("while" : Str) = "repeat") = false))) (fun h => nomatch h) fun _ H6 e6' => ?_
      refine s_if (b := true) (et_w (ev_var rfl) (by exact decide_eq_true rfl)) (fun _ H7 e7' => ?_) fun h => nomatch h
      have e7 := e4.trans ((e5'.trans e6').trans e7')
      obtain ⟨b, vs, b1, b2, b3, b4⟩ := hput H7 ((e5'.trans e6').trans e7') [some (.ref R.r), some (.ref A.o), some (.ref bl), none, some (.str "while")] rfl
      refine s_appU b1 b3 (eu_tup (ea_cons ev_c (ea_cons (ev_fld (ev_var rfl) (e7 _ _ g1) T.cl_Open T.n_Open_test rfl) (ea_cons (ev_op (ev_var rfl) ev_c (rv_ixL (sq_of ((e4'.trans ((e5'.trans e6').trans e7')) _ _ hbl3)) (atI_nat (j := 0) hy0))) ea_nil))) (by simp)) b2 fun t H8 _ e8 ht => ?_
      refine b4 H8 (.ref t) (.whl s z op.b0) e8 ?_ (hcl _ (by rw [hk]))
      rw [eP]
      exact ⟨t, _, rfl, ht, _, _, rfl, rfl, _, _, rfl, g3.2.ex (e7.trans e8), _, _, rfl, hty0.ex ((e4'.trans ((e5'.trans e6').trans e7')).trans e8), rfl⟩
    | iff s z =>
      rw [hk] at g3
      refine s_if (b := false) (et_w (ev_var rfl) (by exact (by decide +kernel : decide (("if" : Str) = "to") = false))) (fun h => nomatch h) fun _ H5 e5' => ?_
      refine s_if (b := false) (et_w (ev_var rfl) (by exact (by decide +kernel : decide (("if" : Str) = "repeat") = false))) (fun h => nomatch h) fun _ H6 e6' => ?_
      refine s_if (b := false) (et_w (ev_var rfl) (by exact (by decide +kernel : decide (("if" : Str) = "while") = false))) (fun h => nomatch h) fun _ H7 e7' => ?_
      have e47 := (e4'.trans ((e5'.trans e6').trans e7'))
      have e7 := e4.trans ((e5'.trans e6').trans e7')
      obtain ⟨b, vs, b1, b2, b3, b4⟩ := hput H7 ((e5'.trans e6').trans e7') [some (.ref R.r), some (.ref A.o), some (.ref bl), none, some (.str "if")] rfl
      obtain ⟨n1, n2, n3⟩ := bls_1 op
      refine s_appIf (d := eB op.b1) b1 b2 b3 ev_c (ev_fld (ev_var rfl) (e7 _ _ g1) T.cl_Open T.n_Open_test rfl) (ev_op (ev_var rfl) ev_c (rv_ixL (sq_of (e47 _ _ hbl3)) (atI_nat (j := 0) hy0))) (fun H8 e8 Q' q => ?_) fun t v H8 e8 ht hv => ?_
      · have hlen2 : EvT (tTest (tOp (rI0 fun i j => .bl (decide (j < i))) (tCB (rLenS K) (tCons (tVar 2) tNil)) (tC (.int 1)))) [some (.ref R.r), some (.ref A.o), some (.ref bl), none, some (.str "if")] H8 op.dn.isSome := by
          refine et_is (et_test (ev_op (ev_len (ev_var rfl) (sq_of (e8 _ _ (e47 _ _ hbl3)))) ev_c rv_I0)) ?_
          rw [hylen, ← n2]
          exact dec_lt 1 _
        refine hlen2 H8 (Ex.refl H8) _ fun H9 e9 => ?_
        cases hdn : op.dn.isSome with
        | true =>
          obtain ⟨y1, hy1, hty1⟩ := tdl_at (i := 1) (d := eB op.b1) hys (by rw [List.getElem?_map, n3 hdn]; rfl)
          have hev : Ev (tOp (rIxL K) (tVar 2) (tC (.int 1))) [some (.ref R.r), some (.ref A.o), some (.ref bl), none, some (.str "if")] H9 y1 := ev_op (ev_var rfl) ev_c (rv_ixL (sq_of ((e47.trans (e8.trans e9)) _ _ hbl3)) (atI_nat (j := 1) hy1))
          exact hev H9 (Ex.refl H9) Q' fun H10 e10 => q _ H10 (e9.trans e10) (hty1.ex (e47.trans ((e8.trans e9).trans e10)))
        | false =>
          have hb1 : op.b1 = [] := by
            unfold Op.b1
            rw [hdn]
            rfl
          refine ⟨Nat.zero_le _, fun p hp => q _ _ (e9.trans (Ex.new hp)) ?_⟩
          rw [hb1]
          exact ⟨p, [], rfl, upd_same, rfl⟩
      · refine b4 H8 (.ref t) (.ifP s z op.b0 op.b1) e8 ?_ (hcl _ (by rw [hk]))
        rw [eP]
        exact ⟨t, _, rfl, ht, _, _, rfl, rfl, _, _, rfl, g3.2.ex (e7.trans e8), _, _, rfl, hty0.ex (e47.trans e8), _, _, rfl, hv, rfl⟩
def spTurn (CR CO CL : Addr) : Sp := fun vs H Q E => ∃ (R : RA) (st : Rd) (wl : Addr) (ws : List Str) (first : Str) (line : Int) (N : Nat), vs = [.ref R.r, .int line, .ref wl] ∧ LineAt CR CO H R st wl ws N ∧ ws[0]? = some first ∧ st.tw ≠ [] ∧ (2 ≤ st.tw.length → ∀ op, st.tw.head? = some op → op.kd ≠ .prog) ∧
  (first = "else" ∨ first = "end") ∧ Post CR CO CL R wl (takeTurn st first ws) line H Q E
theorem isIf_word (o : Op) : o.isIf = decide (((match o.kd with | .prog => ("program" : Str) | .to _ => ("to" : Str) | .iff _ _ => ("if" : Str) | .whl _ _ => ("while" : Str) | .rep _ => ("repeat" : Str)) : Str) = ("if" : Str)) := by
  unfold Op.isIf
  cases o.kd with
  | prog => exact (by decide +kernel : decide (("program" : Str) = "if") = false).symm
  | to x => exact (by decide +kernel : decide (("to" : Str) = "if") = false).symm
  | iff s z => exact (by decide +kernel : decide (("if" : Str) = "if") = true).symm
  | whl s z => exact (by decide +kernel : decide (("while" : Str) = "if") = false).symm
  | rep n => exact (by decide +kernel : decide (("repeat" : Str) = "if") = false).symm
theorem c_Turn (T : Txt K mg w a) : MetG (CXX P w) P w K mg base 5 a.cR "take_turn" (spTurn a.cR a.cO a.cBL) [] := by
  have M_Reader_fail : MetG (CXX P w) P w K mg base 3 a.cR "fail" (spRFail a.cR a.cBL) [] := c_RFail T
  have M_Reader_need_size : MetG (CXX P w) P w K mg base 4 a.cR "need_size" (spNeedSize a.cR a.cBL) [] := c_NeedSize T
  have M_Reader_close : MetG CX0 P w K mg base 1 a.cR "close" (spClose a.cR a.cO) [] := c_Close T
  obtain ⟨f, fd, D, hm⟩ := T.m_Reader_take_turn
  refine ⟨f, fd, _, [], T.cl_Reader, hm, D.ok sc_Reader_take_turn (fun vs H Q E h => ?_) (fun cdv A outer s H vs Q E hr h => ⟨_, (pss_cons (ps_set (i := 3) sc_Reader_take_turn.nd rfl (Or.inl rfl) (pe_ix ix_list (pe_fld (pv 0) rfl) (pe_un un_neg pe_int) (fun _ _ => rfl)))
      (pss_cons (ps_if (PW.pt (pw_or (PW.pt (pw_and (pt_cmpR op_eq (pe_ix ix_list (pv 2) pe_int (fun _ _ => rfl)) pe_str (nomark _)) (pw_and1 (PW.pt (pw_or (pt_cmpR op_ne (pe_ix ix_list (pe_fld (pv 3) rfl) pe_int (fun _ _ => rfl)) pe_str (nomark _)) (pw_or1 (pt_cmpR op_gt (pe_callB call_len_seq (by rfl) T.b_len (by decide +kernel) (pa_cons (pe_fld (pv 3) rfl) pa_nil)) pe_int (nomark _)))))))) (pw_or1 (pt_cmpR op_eq (pe_callB call_len_seq (by rfl) T.b_len (by decide +kernel) (pa_cons (pe_fld (pv 0) rfl) pa_nil)) pe_int (nomark _))))) (pss_one (ps_expr (pe_mX M_Reader_fail hr (by omega) (passes_call (takes_of rfl rfl rfl rfl) (fun _ _ _ _ h => h)) (pv 0) (pa_cons (pv 1) (pa_cons pe_int pa_nil))))) pss_nil)
      (pss_cons (ps_expr (pe_mX M_Reader_need_size hr (by omega) (passes_call (takes_of rfl rfl rfl rfl) (fun _ _ _ _ h => h)) (pv 0) (pa_cons (pv 1) (pa_cons (pv 2) (pa_cons pe_int pa_nil)))))
      (pss_one (ps_if (pt_cmpR op_eq (pe_ix ix_list (pv 2) pe_int (fun _ _ => rfl)) pe_str (nomark _)) (pss_one (ps_expr (pe_bm PySem.F.plainAttrs_list PySem.F.slot_list_append PySem.F.type_list_append mt_append (pe_fld (pv 3) rfl) (pa_cons (pe_lst pa_nil) pa_nil)))) (pss_one (ps_expr (pe_m00 M_Reader_close hr (by omega) (pv 0))))))))), ?_⟩), D.bindsN (fun _ _ _ _ _ _ us hl => match us, hl with | [_, _, _], _ => rfl), .nil⟩
  · obtain ⟨R, st, wl, ws, first, line, N, rfl, _⟩ := h
    rfl
  · obtain ⟨R, st, wl, ws, first, line, N, rfl, L, h0, hne, hkd, hfi, k⟩ := h
    have hw := L.wl_
    have hR := L.rd
    obtain ⟨dx, nv, h1⟩ := hR.ins0
    have hlen := hR.op.len
    have hfew := L.few
    have hcu := L.cu
    have hprN := L.pr
    cases hops : R.ops with
    | nil =>
      rw [hops, List.length_nil] at hlen
      exact absurd (List.eq_nil_of_length_eq_zero hlen.symm) hne
    | cons A ops =>
    cases htw : st.tw with
    | nil => exact absurd htw hne
    | cons op tw =>
    refine q_asg (ev_top T hR hops (ev_var rfl)) fun H1 e1 => ?_
    have hop := (hR.ex e1).op
    rw [hops, htw] at hop
    obtain ⟨o', l', e, r1, r2⟩ := hop
    cases e
    obtain ⟨dxo, tv, ows, g1, g2, g3⟩ := r1.ins
    have hw0 := kd_w0 g3
    have hbl := r1.bk.bl.len
    obtain ⟨n1, n2, n3⟩ := bls_1 op
    unfold takeTurn at k
    have hno : noElse st.tw = (!op.isIf || op.dn.isSome) := by rw [htw]; rfl
    refine q_when (b := decide ((first = "else" ∧ noElse st.tw = true) ∨ st.tw.length = 1)) (et_is (et_or (a := (decide (first = "else") && (!op.isIf || op.dn.isSome))) (b := decide (st.tw.length = 1)) (et_and (et_w (wat (ev_var rfl) (e1 _ _ hw) ev_c (i := 0) h0) rfl) fun _ =>
        et_or (et_test (ev_neS (wat (ev_fld (ev_var rfl) g1 T.cl_Open T.n_Open_words rfl) g2 ev_c (i := 0) hw0) ev_c (by rw [isIf_word] <;> cases op.kd <;> rfl))) fun _ => et_is (et_test (ev_op (ev_len (ev_fld (ev_var rfl) g1 T.cl_Open T.n_Open_blocks rfl) (sq_of r1.bl)) ev_c rv_I0)) (by rw [List.length_map, hbl, ← n2]; exact dec_lt 1 _)) fun _ =>
        et_test (ev_eqI (rd_len T (hR.ex e1) (ev_var rfl)) ev_c (dec_eqN _ 1))) (by
          rw [hno]
          by_cases c1 : first = "else"
          · rw [decide_eq_true c1, Bool.true_and]
            cases hb : (!op.isIf || op.dn.isSome) with
            | true => exact (decide_eq_true (.inl ⟨c1, rfl⟩)).symm
            | false =>
              rw [Bool.false_or]
              by_cases c2 : st.tw.length = 1
              · rw [decide_eq_true c2]
                exact (decide_eq_true (.inr c2)).symm
              · rw [decide_eq_false c2]
                exact (decide_eq_false fun z => z.elim (fun z => nomatch z.2) c2).symm
          · rw [decide_eq_false c1, Bool.false_and, Bool.false_or]
            by_cases c2 : st.tw.length = 1
            · rw [decide_eq_true c2]
              exact (decide_eq_true (.inr c2)).symm
            · rw [decide_eq_false c2]
              exact (decide_eq_false fun z => z.elim (fun z => c1 z.1) c2).symm)) (fun h H2 e2 => ?_) (fun h H2 e2' => ?_)
    · rw [if_pos (of_decide_eq_true h)] at k
      exact s_out (a_rfail (ev_var rfl) (hR.insR.ex (e1.trans e2)) (ea_cons (ev_var rfl) (ea_cons ev_c ea_nil)) ((k.err rfl).ex (e1.trans e2)))
    · have h' := of_decide_eq_false h
      rw [if_neg h'] at k
      rw [not_or] at h'
      have e2 := e1.trans e2'
      have htl2 : 2 ≤ st.tw.length := by
        have := h'.2
        rw [htw, List.length_cons] at this ⊢
        omega
      refine q_need (n := 1) (ev_var rfl) (hR.insR.ex e2) (e2 _ _ hw) (ea_cons (ev_var rfl) (ea_cons (ev_var rfl) (ea_cons ev_c ea_nil))) (fun hl H3 e3' => ?_) fun e he => (k.err (he _)).ex e2
      have e3 := e2.trans e3'
      have e13 := e2'.trans e3'
      have k3 := k.ok (st' := if first = "else" then elseR st else closeR st) (by rw [needSize, if_neg (by omega), if_neg (by omega)])
      by_cases c1 : first = "else"
      · rw [if_pos c1] at k3
        refine s_if (b := true) (et_w (wat (ev_var rfl) (e3 _ _ hw) ev_c (i := 0) h0) (decide_eq_true c1)) (fun _ H4 e4' => ?_) fun h => nomatch h
        have e4 := e3.trans e4'
        have e14 := e13.trans e4'
        have hdn : op.dn = none := by
          have := h'.1
          rw [hno] at this
          cases hd : op.dn with
          | none => rfl
          | some d =>
            rw [hd] at this
            exact absurd ⟨c1, by simp⟩ this
        have hrd4 := hR.ex e4
        refine s_appL (e14 _ _ r1.bl) (ev_fld (ev_var rfl) (e14 _ _ g1) T.cl_Open T.n_Open_blocks rfl) (el_lst ea_nil (Nat.zero_le _)) (by
            rw [List.length_map, hbl]
            unfold Op.bls
            cases op.dn <;> simp) fun c H5 hc e5 hc5 => ?_
        have hcn : c ∉ R.cs := fun z => by
          obtain ⟨u, hu⟩ := hrd4.known c z
          rw [hu] at hc
          cases hc
        have hfin := RdOk.els (hrd4.ex e5) hops htw hdn hc5 hcn
        rw [List.map_append] at hfin
        refine k3 { R with ops := { A with bs := A.bs ++ [c] } :: ops } _ rfl (Same.trans (.of_ex (e4.trans e5)) (.upd (by rw [RA.cs, hops]; simp [opsC, OpA.cs]))) ?_ fun x hx => ?_
        · have he : elseR st = { st with tw := { op with dn := some op.cu, cu := [] } :: tw } := by
            unfold elseR
            rw [htw]
          rw [he]
          exact hfin
        · simp only [RA.cs, opsC, OpA.cs, List.mem_cons, List.not_mem_nil, or_false, List.mem_append] at hx
          rw [RA.cs, hops]
          simp only [opsC, OpA.cs, List.mem_cons, List.mem_append]
          rcases hx with q | q | q | (q | q | q | q | q) | q
          · exact .inl (.inl q)
          · exact .inl (.inr (.inl q))
          · exact .inl (.inr (.inr (.inl q)))
          · exact .inl (.inr (.inr (.inr (.inl (.inl q)))))
          · exact .inl (.inr (.inr (.inr (.inl (.inr (.inl q))))))
          · exact .inl (.inr (.inr (.inr (.inl (.inr (.inr (.inl q)))))))
          · exact .inl (.inr (.inr (.inr (.inl (.inr (.inr (.inr q)))))))
          · rw [q]
            exact .inr (.inr (fresh_back e4 hc))
          · exact .inl (.inr (.inr (.inr (.inr q))))
      · rw [if_neg c1] at k3
        refine s_if (b := false) (et_w (wat (ev_var rfl) (e3 _ _ hw) ev_c (i := 0) h0) (decide_eq_false c1)) (fun h => nomatch h) fun _ H4 e4' => ?_
        have e4 := e3.trans e4'
        refine a_meth (ev_var rfl) (e4 _ _ h1) rfl ea_nil fun H5 e5 => ⟨R, st, rfl, hR.ex (e4.trans e5), htl2, hkd htl2, by omega, fun o ho => by have := (hcu o ho).1; omega, fun R' H' q1 q2 q3 q4 => ?_⟩
        exact k3 R' H' q1 (Same.trans (.of_ex (e4.trans e5)) q2) q3 fun c hc => .inl (q4 c hc)
end
end RS
end
section
set_option Elab.async false
set_option linter.all false
set_option maxRecDepth 100000
set_option maxHeartbeats 4000000
/-! W17: take_part. -/
namespace RS
open PySem L2 TL Evl
section
variable {K : PySem.W.Frag} {σ : L2.St} {H : Hp} {ta te to tl' t2 t3 : TE} {tA : TA} {D : Ends} {tz : TS} {C : Addr} {E : XK}
theorem s_appK {l : Addr} {xs : List V} (hl : H l = some (.lst xs)) (ha : Ev ta σ H (.ref l)) (k : ∀ H1, Ex H H1 → te σ H1 fun y H2 => rAppend (.ref l) [y] H2 fun _ H3 => D.nx σ H3) : tDrop (tBM K "list" rAppend ta (tCons te tNil)) D σ H :=
  ha H (Ex.refl H) _ fun H1 e1 => ⟨Or.inl ⟨rfl, xs, sq_of (e1 l _ hl)⟩, k H1 e1⟩
/-- xs.append(Open(words, test)), the test from a call -/
theorem s_appOT {l wa : Addr} {xs : List V} {G : Hp → V → Prop} (hl : H l = some (.lst xs)) (hz : xs.length < 100000) (ha : Ev ta σ H (.ref l)) (h2 : Ev t2 σ H (.ref wa)) (h3 : ∀ H1, Ex H H1 → ∀ Q : VK, (∀ tv H2, Ex H1 H2 → G H2 tv → Q tv H2) → t3 σ H1 Q)
    (k : ∀ (tv : V) (o ba b0 dx : Addr) H1 H', Ex H H1 → G H1 tv → Ex H1 H' → H1 o = none → H1 ba = none → H1 b0 = none → o ≠ ba → o ≠ b0 → ba ≠ b0 → H' o = some (.ins C dx (opF wa tv ba)) → H' ba = some (.lst [.ref b0]) → H' b0 = some (.lst []) → D.nx σ (upd H' l (.lst (xs ++ [.ref o])))) :
    tDrop (tBM K "list" rAppend ta (tCons (tMake C (spOpenI C) [] E (tCons t2 (tCons t3 tNil))) tNil)) D σ H := ha H (Ex.refl H) _ fun H1 e1 =>
  ⟨Or.inl ⟨rfl, xs, sq_of (e1 l _ hl)⟩, h2 H1 e1 _ fun H2 e2 => h3 H2 (e1.trans e2) _ fun tv H3 e3 hg x dx hx hdx hne => by
    have e13 := (e1.trans e2).trans e3
    exact open_core (Q := fun y H3 => rAppend (.ref l) [y] H3 fun _ H4 => D.nx σ H4) (wa := wa) (tv := tv) (fun o ba b0 dx H' e4 h1 h2 h3 n1 n2 n3 g1 g2 g3 => ⟨l, xs, .ref o, rfl, rfl, e4 _ _ (e13 _ _ hl), sz_lt hz, k tv o ba b0 dx H3 H' e13 hg e4 h1 h2 h3 n1 n2 n3 g1 g2 g3⟩) x dx hx hdx hne⟩
/-- o.f += e, ints -/
theorem q_fldaug {o dx : Addr} {fs : List (Str × V)} {f : Str} {i j : Int} (hO : Ev to σ H (.ref o)) (ho : H o = some (.ins C dx fs)) (hc : Cls K C) (hn : NoAttr K C f) (hl : fs.lookup f = some (.int i)) (he : Ev te σ H (.int j)) (hz : fs.length < 1000)
    (k : ∀ H1, Ex H H1 → tz D σ (upd H1 o (.ins C dx (putF f (.int (i + j)) fs)))) : tSeq (sFldAug K to te rAdd f) tz D σ H :=
  hO H (Ex.refl H) _ fun H1 e1 => ⟨o, C, dx, fs, .int i, rfl, e1 _ _ ho, hc, hn, hl, he H1 e1 _ fun H2 e2 => ⟨i, j, rfl, rfl, dx, fs, e2 _ _ (e1 _ _ ho), hz, k H2 (e1.trans e2)⟩⟩
end
theorem numIn_some {x : Str} {lo hi i : Int} (h : numIn x lo hi = some i) : i = numVal x ∧ lo ≤ i ∧ i ≤ hi ∧ intText? x = some i ∧ x.length ≤ 6 := by
  unfold numIn at h
  split at h
  · cases h
  · rename_i hn
    rw [not_or, not_or] at hn
    obtain ⟨h1, h2, h3⟩ := hn
    split at h
    · rename_i hc
      cases h
      have hne : figs x ≠ [] := fun z => by
        rw [z] at h1
        exact h1 rfl
      obtain ⟨g1, g2⟩ := figs_text hne (by omega) (by cases q : (figs x).all fun c => decide (c ∈ figures) with | true => rfl | false => exact absurd q h3)
      exact ⟨rfl, hc.2.1, hc.2.2, g1, g2⟩
    · cases h
theorem LineAt.setR {CR CO : Addr} {H : Hp} {R : RA} {st st' : Rd} {wl dx : Addr} {ws : List Str} {N : Nat} {nv : V} (L : LineAt CR CO H R st wl ws N) (h1 : st'.procs = st.procs) (h2 : st'.tw = st.tw) (hn : NmOk H st'.names nv) :
    LineAt CR CO (upd H R.r (.ins CR dx (rdF nv R.pa R.ta (st'.parts : Nat) st'.begun))) R st' wl ws N where
  rd := L.rd.setR h1 h2 hn
  wl_ := by
    rw [upd_ne fun z => L.nw (by rw [z]; simp [RA.cs])]
    exact L.wl_
  nw := L.nw
  ok := L.ok
  one := L.one
  pr := by rw [h1]; exact L.pr
  tw := by rw [h2]; exact L.tw
  cu := by rw [h2]; exact L.cu
  few := L.few
def spPart (CR CO CL : Addr) : Sp := fun vs H Q E => ∃ (R : RA) (st : Rd) (names : List Str) (wl : Addr) (ws : List Str) (first : Str) (line : Int) (N : Nat), vs = [.ref R.r, .int line, .ref wl] ∧ LineAt CR CO H R st wl ws N ∧ ws[0]? = some first ∧ st.tw ≠ [] ∧ st.names = some names ∧ Post CR CO CL R wl (takePart st first ws) line H Q E
theorem badRep_at {ws : List Str} : badRep ws = (match ws[1]? with | some x => (numIn x 0 6).isNone | none => false) := by
  match ws with
  | [] => rfl
  | [_] => rfl
  | _ :: y :: r => rfl
section
variable {P : Program} {w : World} {K : PySem.W.Frag} {mg : Str → Option Value} {base : Heap} {a : Ads}
theorem c_Part (T : Txt K mg w a) : MetG (CXX P w) P w K mg base 28 a.cR "take_part" (spPart a.cR a.cO a.cBL) [] := by
  have M_Reader_fail : MetG (CXX P w) P w K mg base 3 a.cR "fail" (spRFail a.cR a.cBL) [] := c_RFail T
  have M_Reader_need_size : MetG (CXX P w) P w K mg base 4 a.cR "need_size" (spNeedSize a.cR a.cBL) [] := c_NeedSize T
  have M_Reader_depth : MetG CX0 P w K mg base 1 a.cR "depth" (spDepth a.cR a.cO) [] := c_Depth T
  have M_Reader_test_of : MetG (CXX P w) P w K mg base 26 a.cR "test_of" (spTestOf a.cR a.cO a.cBL) [] := c_TestOf T
  have M_Reader_small_part : MetG (CXX P w) P w K mg base 27 a.cR "small_part" (spSmall a.cR a.cO a.cBL) [] := c_Small T
  have C_number_in : CalG CX0 P w K mg base 1 "number_in" spNumberIn [] := c_number_in T
  have K_Open : MakG CX0 P w K mg base 1 "Open" a.cO (spOpenI a.cO) [] := (b_Open T).1
  have K_Open_d : MakG CX0 P w K mg base 1 "Open" a.cO (spOpenI a.cO) [.non] := (b_Open T).2
  obtain ⟨f, fd, D, hm⟩ := T.m_Reader_take_part
  refine ⟨f, fd, _, [], T.cl_Reader, hm, D.ok sc_Reader_take_part (fun vs H Q E h => ?_) (fun cdv A outer s H vs Q E hr h => ⟨_, (pss_cons (ps_set (i := 3) sc_Reader_take_part.nd rfl (Or.inl rfl) (pe_ix ix_list (pv 2) pe_int (fun _ _ => rfl)))
      (pss_cons (ps_fld (pv 0) (pe_or (pe_fld (pv 0) rfl) (pe_one (pe_cmpR op_eq (pe_callB call_len_seq (by rfl) T.b_len (by decide +kernel) (pa_cons (pe_fld (pv 0) rfl) pa_nil)) pe_int (nomark _)))) rfl)
      (pss_cons (ps_if (PW.pt (pw_or (pt_cmpR op_eq (pe_fld (pv 0) rfl) (C8.pe_gc (by rfl) T.g_MOST_PARTS) (nomark _)) (pw_or1 (PW.pt (pw_and (pt_cmpR op_in_seq (pv 3) (pe_tup (pa_cons pe_str (pa_cons pe_str (pa_cons pe_str pa_nil)))) (by rfl)) (pw_and1 (pt_cmpR op_eq (pe_m00 M_Reader_depth hr (by omega) (pv 0)) (C8.pe_gc (by rfl) T.g_MOST_DEPTH) (nomark _)))))))) (pss_one (ps_expr (pe_mX M_Reader_fail hr (by omega) (passes_call (takes_of rfl rfl rfl rfl) (fun _ _ _ _ h => h)) (pv 0) (pa_cons (pv 1) (pa_cons pe_int pa_nil))))) pss_nil)
      (pss_cons (ps_fldaug (pv 0) pe_int in_add)
      (pss_one (ps_if (pt_cmpR op_in_seq (pv 3) (pe_tup (pa_cons pe_str (pa_cons pe_str pa_nil))) (by rfl)) (pss_one (ps_expr (pe_bm PySem.F.plainAttrs_list PySem.F.slot_list_append PySem.F.type_list_append mt_append (pe_fld (pv 0) rfl) (pa_cons (pe_k K_Open hr (by omega) (by rfl) (pa_cons (pv 2) (pa_cons (pe_mX M_Reader_test_of hr (by omega) (passes_call (takes_of rfl rfl rfl rfl) (fun _ _ _ _ h => h)) (pv 0) (pa_cons (pv 1) (pa_cons (pv 2) pa_nil))) pa_nil))) pa_nil)))) (pss_one (ps_if (pt_cmpR op_eq (pv 3) pe_str (nomark _)) (pss_cons (ps_if (PW.pt (pw_and (pt_cmpR op_gt (pe_callB call_len_seq (by rfl) T.b_len (by decide +kernel) (pa_cons (pv 2) pa_nil)) pe_int (nomark _)) (pw_and1 (pt_cmpR op_isN (pe_f0 C_number_in hr (by omega) (by rfl) (pa_cons (pe_ix ix_list (pv 2) pe_int (fun _ _ => rfl)) (pa_cons pe_int (pa_cons (C8.pe_gc (by rfl) T.g_MOST_ROUNDS) pa_nil)))) pe_non (nomark _))))) (pss_one (ps_expr (pe_mX M_Reader_fail hr (by omega) (passes_call (takes_of rfl rfl rfl rfl) (fun _ _ _ _ h => h)) (pv 0) (pa_cons (pv 1) (pa_cons pe_int pa_nil))))) pss_nil)
      (pss_cons (ps_expr (pe_mX M_Reader_need_size hr (by omega) (passes_call (takes_of rfl rfl rfl rfl) (fun _ _ _ _ h => h)) (pv 0) (pa_cons (pv 1) (pa_cons (pv 2) (pa_cons pe_int pa_nil)))))
      (pss_one (ps_expr (pe_bm PySem.F.plainAttrs_list PySem.F.slot_list_append PySem.F.type_list_append mt_append (pe_fld (pv 0) rfl) (pa_cons (pe_k K_Open_d hr (by omega) (by rfl) (pa_cons (pv 2) pa_nil)) pa_nil)))))) (pss_one (ps_expr (pe_bm PySem.F.plainAttrs_list PySem.F.slot_list_append PySem.F.type_list_append mt_append (pe_ix ix_list (pe_fld (pe_ix ix_list (pe_fld (pv 0) rfl) (pe_un un_neg pe_int) (fun _ _ => rfl)) rfl) (pe_un un_neg pe_int) (fun _ _ => rfl)) (pa_cons (pe_mX M_Reader_small_part hr (by omega) (passes_call (takes_of rfl rfl rfl rfl) (fun _ _ _ _ h => h)) (pv 0) (pa_cons (pv 1) (pa_cons (pv 2) pa_nil))) pa_nil)))))))))))), ?_⟩), D.bindsN (fun _ _ _ _ _ _ us hl => match us, hl with | [_, _, _], _ => rfl), .nil⟩
  · obtain ⟨R, st, names, wl, ws, first, line, N, rfl, _⟩ := h
    rfl
  · obtain ⟨R, st, names, wl, ws, first, line, N, rfl, L, h0, hne, hn, k⟩ := h
    have hfew := L.few
    have hrc : R.r ∈ R.cs := by simp [RA.cs]
    refine q_asg (v := .str first) (wat (ev_var rfl) L.wl_ ev_c h0) fun H1 e1 => ?_
    -- has_begun
    obtain ⟨dx, na, h1, h2⟩ := L.rd.nms hn
    have L1 := L.ex e1
    refine q_fld (v := .bl (st.begun || decide (st.tw.length = 1))) (ev_orV (a := st.begun) (b := decide (st.tw.length = 1)) (ev_fld (ev_var rfl) (e1 _ _ h1) T.cl_Reader T.n_Reader_has_begun rfl) fun _ => ev_eqI (rd_len T L1.rd (ev_var rfl)) ev_c (dec_eqN _ 1)) (ev_var rfl) (e1 _ _ h1) T.cl_Reader T.n_Reader_has_begun (by show 5 < 1000; decide) fun H2 e2 => ?_
    have LB : LineAt a.cR a.cO (upd H2 R.r (.ins a.cR dx (rdF (.ref na) R.pa R.ta (st.parts : Nat) (st.begun || decide (st.tw.length = 1))))) R { st with begun := st.begun || decide (st.tw.length = 1) } wl ws N :=
      (L.ex (e1.trans e2)).setR (st' := { st with begun := st.begun || decide (st.tw.length = 1) }) rfl rfl (by rw [show ({ st with begun := st.begun || decide (st.tw.length = 1) } : Rd).names = some names from hn]; exact ⟨na, rfl, (e1.trans e2) _ _ h2⟩)
    have s2 : Same R.cs H (upd H2 R.r (.ins a.cR dx (rdF (.ref na) R.pa R.ta (st.parts : Nat) (st.begun || decide (st.tw.length = 1))))) := Same.trans (.of_ex (e1.trans e2)) (.upd hrc)
    have k2 := k.mono s2 LB.rd.known
    show tSeq _ _ _ _ (upd H2 R.r (.ins a.cR dx (rdF (.ref na) R.pa R.ta (st.parts : Nat) (st.begun || decide (st.tw.length = 1)))))
    have hn2 : ({ st with begun := st.begun || decide (st.tw.length = 1) } : Rd).names = some names := hn
    generalize hst2 : ({ st with begun := st.begun || decide (st.tw.length = 1) } : Rd) = st2 at LB hn2
    generalize hH2 : (upd H2 R.r (.ins a.cR dx (rdF (.ref na) R.pa R.ta (st.parts : Nat) (st.begun || decide (st.tw.length = 1))))) = G at LB s2 k2
    clear hH2 s2 e2 L1 e1 h1 h2 k L H2 H1
    have htw2 : st2.tw = st.tw := by rw [← hst2]
    have hpa2 : st2.parts = st.parts := by rw [← hst2]
    have hpr2 : st2.procs = st.procs := by rw [← hst2]
    have hbe2 : st2.begun = (st.begun || decide (st.tw.length = 1)) := by rw [← hst2]
    obtain ⟨dx, na, h1, h2⟩ := LB.rd.nms hn2
    rw [hpa2] at h1
    unfold takePart at k2
    have hBlk : ∀ {H3 : Hp} {te : TE} {σ : L2.St}, Ev te σ H3 (.str first) → EvT (tTest (tOp (rIn K false) te (tTup (tCons (tC (.str "if")) (tCons (tC (.str "while")) (tCons (tC (.str "repeat")) tNil)))))) σ H3 (isBlk first) := fun {H3 te σ} h => by
      refine et_is (et_test (ev_inUs (l := ["if", "while", "repeat"]) h (ea_cons ev_c (ea_cons ev_c (ea_cons ev_c ea_nil))) (by decide))) ?_
      unfold isBlk
      by_cases c1 : first = "if"
      · rw [decide_eq_true c1]
        exact decide_eq_true (by simp [c1])
      · rw [decide_eq_false c1, Bool.false_or]
        by_cases c2 : first = "while"
        · rw [decide_eq_true c2]
          exact decide_eq_true (by simp [c2])
        · rw [decide_eq_false c2, Bool.false_or]
          by_cases c3 : first = "repeat"
          · rw [decide_eq_true c3]
            exact decide_eq_true (by simp [c3])
          · rw [decide_eq_false c3]
            exact decide_eq_false (by simp [c1, c2, c3])
    refine q_when (b := decide (st.parts = 60 ∨ (isBlk first = true ∧ depthR st.tw = 6))) (et_is (et_or (a := decide (st.parts = 60)) (b := (isBlk first && decide (depthR st.tw = 6))) (et_test (ev_eqI (ev_fld (ev_var rfl) h1 T.cl_Reader T.n_Reader_parts rfl) ev_c (dec_eqN _ 60))) fun _ => et_and (hBlk (ev_var rfl)) fun _ =>
        et_test (ev_eqI (fun H3 e3 Q' q => a_meth (ev_var rfl) (e3 _ _ h1) rfl ea_nil fun H4 e4 => ⟨R, st2, rfl, LB.rd.ex (e3.trans e4), fun H5 e5 => by rw [htw2]; exact q H5 (e4.trans e5)⟩) ev_c (dec_eqN _ 6))) (by
          by_cases c1 : st.parts = 60
          · rw [decide_eq_true c1]
            exact (decide_eq_true (.inl c1)).symm
          · rw [decide_eq_false c1, Bool.false_or]
            cases hb : isBlk first with
            | false => exact (decide_eq_false fun z => z.elim c1 fun z => nomatch z.1).symm
            | true =>
              rw [Bool.true_and]
              by_cases c2 : depthR st.tw = 6
              · rw [decide_eq_true c2]
                exact (decide_eq_true (.inr ⟨rfl, c2⟩)).symm
              · rw [decide_eq_false c2]
                exact (decide_eq_false fun z => z.elim c1 fun z => c2 z.2).symm)) (fun h H1 e1 => ?_) (fun h H1 e1 => ?_)
    · rw [if_pos (of_decide_eq_true h)] at k2
      exact s_out (a_rfail (ev_var rfl) (LB.rd.insR.ex e1) (ea_cons (ev_var rfl) (ea_cons ev_c ea_nil)) ((k2.err rfl).ex e1))
    · rw [if_neg (of_decide_eq_false h)] at k2
      dsimp only at k2
      have L3 := LB.ex e1
      refine q_fldaug (i := (st.parts : Nat)) (j := 1) (ev_var rfl) (e1 _ _ h1) T.cl_Reader T.n_Reader_parts rfl ev_c (by show 5 < 1000; decide) fun H2 e2 => ?_
      have hins : putF "parts" (.int (((st.parts : Nat) : Int) + 1)) (rdF (.ref na) R.pa R.ta (st.parts : Nat) st2.begun) = rdF (.ref na) R.pa R.ta ((st.parts + 1 : Nat) : Int) st2.begun := rfl
      rw [hins]
      generalize hst4 : ({ st with begun := st.begun || decide (st.tw.length = 1), parts := st.parts + 1 } : Rd) = st4 at k2
      have hn4 : st4.names = some names := by rw [← hst4]; exact hn
      have htw4 : st4.tw = st.tw := by rw [← hst4]
      have hpr4 : st4.procs = st.procs := by rw [← hst4]
      have hkn4 : known st4 = known st := by unfold known; rw [hpr4]
      have L4 : LineAt a.cR a.cO (upd H2 R.r (.ins a.cR dx (rdF (.ref na) R.pa R.ta ((st.parts + 1 : Nat) : Int) st2.begun))) R st4 wl ws N := by
        have := (LB.ex (e1.trans e2)).setR (st' := st4) (dx := dx) (nv := .ref na) (by rw [hpr4, hpr2]) (by rw [htw4, htw2]) (by rw [hn4]; exact ⟨na, rfl, (e1.trans e2) _ _ h2⟩)
        rw [show st4.parts = st.parts + 1 by rw [← hst4], show st4.begun = st2.begun by rw [← hst4, hbe2]] at this
        exact this
      have k4 := k2.mono (Same.trans (.of_ex (e1.trans e2)) (.upd hrc)) L4.rd.known
      generalize hH4 : (upd H2 R.r (.ins a.cR dx (rdF (.ref na) R.pa R.ta ((st.parts + 1 : Nat) : Int) st2.begun))) = H4 at L4 k4
      clear hH4 k2 L3 e2 e1 h1 h2 LB H2 H1
      obtain ⟨dx, na, h1, h2⟩ := L4.rd.nms hn4
      have hw := L4.wl_
      have htl := L4.rd.op.len
      have htN := L4.tw
      have hstw : ({ st4 with tw := st.tw } : Rd) = st4 := by rw [← htw4]
      by_cases c1 : first = "if" ∨ first = "while"
      · rw [if_pos c1] at k4
        refine s_if (b := true) (et_is (et_test (ev_inUs (l := ["if", "while"]) (ev_var rfl) (ea_cons ev_c (ea_cons ev_c ea_nil)) (by decide))) (decide_eq_true (by simpa using c1))) (fun _ H5 e5 => ?_) fun h => nomatch h
        have L5 := L4.ex e5
        refine s_appOT (G := fun H tv => ∃ s z, testOf names ws = .ok (s, z) ∧ Td H (eT s z) tv) L5.rd.tw (by rw [List.length_reverse, List.length_map]; omega) (ev_fld (ev_var rfl) (e5 _ _ h1) T.cl_Reader T.n_Reader_tower rfl) (ev_var rfl) (fun H6 e6 Q' q => a_meth (ev_var rfl) ((e5.trans e6) _ _ h1) rfl (ea_cons (ev_var rfl) (ea_cons (ev_var rfl) ea_nil)) fun H7 e7 => ⟨R, st4, names, wl, ws, line, rfl, L4.rd.ex ((e5.trans e6).trans e7), hn4, ((e5.trans e6).trans e7) _ _ hw, L4.ok, L4.one, .mk (fun p he v H8 e8 hv => q v H8 (e7.trans e8) ⟨p.1, p.2, he, hv⟩) fun e he => ?_⟩) fun tv o ba b0 dx2 H6 H7 e6 hg e7 n1 n2 n3 m1 m2 m3 g1 g2 g3 => ?_
        · have k5 : ErrP a.cBL R line ((e : Nat) : Int) H4 E := by
            rw [show st.names.getD [] = names by rw [hn]; rfl, he] at k4
            exact k4.err rfl
          exact k5.ex ((e5.trans e6).trans e7)
        · obtain ⟨s, z, ht, htd⟩ := hg
          rw [show st.names.getD [] = names by rw [hn]; rfl, ht] at k4
          have k5 := k4.ok rfl
          obtain ⟨r1, r2⟩ := L5.push (kd := if first = "if" then .iff s z else .whl s z) e6 e7 n1 n2 n3 m1 m2 m3 g1 g2 g3 (by
            have hh : ws.head? = some first := by rw [List.head?_eq_getElem?]; exact h0
            by_cases c2 : first = "if"
            · rw [if_pos c2]
              exact ⟨by rw [hh, c2], htd.ex e7⟩
            · rw [if_neg c2]
              exact ⟨by rw [hh, c1.resolve_left c2], htd.ex e7⟩)
          refine k5 { R with ops := ⟨o, wl, ba, [b0]⟩ :: R.ops } _ rfl (Same.trans (.of_ex ((e5.trans e6).trans e7)) (.upd (by simp [RA.cs]))) (by rw [htw4, ← hst4] at r1; exact r1) fun c hc => ?_
          rcases r2 c hc with q | q | q
          · exact .inl q
          · exact .inr (.inl q)
          · exact .inr (.inr (fresh_back e5 q))
      · rw [if_neg c1] at k4
        refine s_if (b := false) (et_is (et_test (ev_inUs (l := ["if", "while"]) (ev_var rfl) (ea_cons ev_c (ea_cons ev_c ea_nil)) (by decide))) (decide_eq_false (by simpa using c1))) (fun h => nomatch h) fun _ H5 e5 => ?_
        by_cases c2 : first = "repeat"
        · rw [if_pos c2] at k4
          refine s_if (b := true) (et_w (ev_var rfl) (decide_eq_true c2)) (fun _ H6 e6' => ?_) fun h => nomatch h
          have e6 := e5.trans e6'
          refine q_when (b := badRep ws) (by
            rw [badRep_at]
            cases hx : ws[1]? with
            | none => exact et_and (a := false) (b := false) (et_is (et_test (ev_op (wlen (ev_var rfl) (e6 _ _ hw)) ev_c rv_I0)) (decide_eq_false (by have := List.getElem?_eq_none_iff.mp hx; omega))) (fun h => nomatch h)
            | some x =>
              have hxo := L4.ok.2 x (List.mem_of_getElem? hx)
              exact et_and (a := true) (b := (numIn x 0 6).isNone) (et_is (et_test (ev_op (wlen (ev_var rfl) (e6 _ _ hw)) ev_c rv_I0)) (decide_eq_true (by have := (List.getElem?_eq_some_iff.mp hx).1; omega))) (fun _ => et_test (ev_isN (ev_call (z := oI (numIn x 0 6)) (ea_cons (wat (ev_var rfl) (e6 _ _ hw) ev_c hx) (ea_cons ev_c (ea_cons ev_c ea_nil))) fun H7 e7 Q' q E' => ⟨x, 0, 6, rfl, hxo.2, hxo.1, q⟩) (by cases numIn x 0 6 <;> rfl)))) (fun h H7 e7 => ?_) (fun h H7 e7' => ?_)
          · rw [if_pos h] at k4
            exact s_out (a_rfail (ev_var rfl) (L4.rd.insR.ex (e6.trans e7)) (ea_cons (ev_var rfl) (ea_cons ev_c ea_nil)) ((k4.err rfl).ex (e6.trans e7)))
          · rw [if_neg (by rw [h]; exact Bool.false_ne_true)] at k4
            have e7 := e6.trans e7'
            refine q_need (n := 2) (ev_var rfl) (L4.rd.insR.ex e7) (e7 _ _ hw) (ea_cons (ev_var rfl) (ea_cons (ev_var rfl) (ea_cons ev_c ea_nil))) (fun hl H8 e8' => ?_) fun e he => (k4.err (he _)).ex e7
            have e8 := e7.trans e8'
            have L8 := L4.ex e8
            have hws := two_words hl h0
            have hx : ws[1]? = some (word1 ws) := by rw [hws]; rfl
            rw [badRep_at, hx] at h
            dsimp only at h
            obtain ⟨i, hi⟩ : ∃ i, numIn (word1 ws) 0 6 = some i := by
              cases q : numIn (word1 ws) 0 6 with
              | none =>
                rw [q] at h
                cases h
              | some i => exact ⟨i, rfl⟩
            obtain ⟨i1, i2, i3, i4, i5⟩ := numIn_some hi
            refine s_appO L8.rd.tw (by rw [List.length_reverse, List.length_map]; omega) (ev_fld (ev_var rfl) (e8 _ _ h1) T.cl_Reader T.n_Reader_tower rfl) (ea_cons (ev_var rfl) ea_nil) rfl fun o ba b0 dx2 H9 H10 e9 e10 n1 n2 n3 m1 m2 m3 g1 g2 g3 => ?_
            obtain ⟨r1, r2⟩ := L8.push (kd := .rep (numVal (word1 ws)).toNat) e9 e10 n1 n2 n3 m1 m2 m3 g1 g2 g3 ⟨word1 ws, by rw [← c2]; exact hws, by
              have e : ((numVal (word1 ws)).toNat : Int) = i := by omega
              rw [e]
              exact i4, by omega⟩
            refine k4.ok (by rw [needSize, if_neg (by omega), if_neg (by omega)]) { R with ops := ⟨o, wl, ba, [b0]⟩ :: R.ops } _ rfl (Same.trans (.of_ex ((e8.trans e9).trans e10)) (.upd (by simp [RA.cs]))) (by rw [htw4, ← hst4] at r1; exact r1) fun c hc => ?_
            rcases r2 c hc with q | q | q
            · exact .inl q
            · exact .inr (.inl q)
            · exact .inr (.inr (fresh_back e8 q))
        · rw [if_neg c2] at k4
          refine s_if (b := false) (et_w (ev_var rfl) (decide_eq_false c2)) (fun h => nomatch h) fun _ H6 e6' => ?_
          have e6 := e5.trans e6'
          have L6 := L4.ex e6
          have hlen := L4.rd.op.len
          cases hops : R.ops with
          | nil =>
            rw [hops, List.length_nil, htw4] at hlen
            exact absurd (List.eq_nil_of_length_eq_zero hlen.symm) hne
          | cons A ops =>
          cases htw : st4.tw with
          | nil =>
            rw [htw4] at htw
            exact absurd htw hne
          | cons op tw =>
          have hop := L6.rd.op
          rw [hops, htw] at hop
          obtain ⟨o', l', e, r1, r2⟩ := hop
          cases e
          obtain ⟨b, vs, b1, b2, b3, b4⟩ := ev_lastB (K := K) (te := tOp (rIxL K) (tFld K (tVar 0) "tower") (tUn (rU fun i => .int (-i)) (tC (.int 1)))) (σ := [some (.ref R.r), some (.int line), some (.ref wl), some (.str first)]) T r1 (ev_top T L6.rd hops (ev_var rfl))
          have hcu := (L4.cu op (by rw [htw]; simp)).1
          refine s_appK b2 b4 fun H7 e7' => a_meth (ev_var rfl) ((e6.trans e7') _ _ h1) rfl (ea_cons (ev_var rfl) (ea_cons (ev_var rfl) ea_nil)) fun H8 e8' => ⟨R, st4, names, wl, ws, first, line, rfl, L4.rd.ex ((e6.trans e7').trans e8'), hn4, ((e6.trans e7').trans e8') _ _ hw, L4.ok, h0, by have := L4.pr; omega, .mk (fun p he v H9 e9 hv => ?_) fun e he => ?_⟩
          · rw [show st.names.getD [] = names by rw [hn]; rfl, ← hkn4, he] at k4
            have e69 := (e7'.trans e8').trans e9
            refine ⟨b, vs, v, rfl, rfl, e69 _ _ b2, sz_lt (by omega), ?_⟩
            have hbm : b ∈ R.cs := by
              rw [RA.cs, hops]
              simp [opsC, OpA.cs, List.mem_of_getLast? b1]
            refine k4.ok rfl R _ rfl (Same.trans (.of_ex (e6.trans e69)) (.upd hbm)) ?_ fun c hc => .inl hc
            have := RdOk.addP (L6.rd.ex e69) hops htw b1 (e69 _ _ b2) hv
            rw [htw4, ← hst4] at this
            exact this
          · rw [show st.names.getD [] = names by rw [hn]; rfl, ← hkn4, he] at k4
            exact (k4.err rfl).ex ((e6.trans e7').trans e8')
end
end RS
end
section
set_option Elab.async false
set_option linter.all false
set_option maxRecDepth 100000
set_option maxHeartbeats 4000000
/-! W18: a line is taken; a text is read. -/
namespace RS
open PySem L2 TL Evl
/-! ### the towers -/
def NP : List Op → Prop
  | [] => False
  | [_] => True
  | o :: p :: r => o.kd ≠ .prog ∧ NP (p :: r)
def BdT (N : Nat) (tw : List Op) : Prop := ∀ op ∈ tw, op.cu.length ≤ N ∧ ∀ d, op.dn = some d → d.length ≤ N
structure InvR (N : Nat) (st : Rd) : Prop where
  np : NP st.tw
  bd : BdT N st.tw
  tw : st.tw.length ≤ N + 1
  pr : st.procs.length ≤ N
theorem NP.ne {l : List Op} (h : NP l) : l ≠ [] := by
  cases l with
  | nil => exact h.elim
  | cons _ _ => simp
theorem NP.top {l : List Op} (h : NP l) (h2 : 2 ≤ l.length) : ∀ op, l.head? = some op → op.kd ≠ .prog := by
  match l, h, h2 with
  | o :: p :: r, h, _ =>
    intro op e
    cases (Option.some.inj e : o = op)
    exact h.1
theorem NP.pop {o : Op} {l : List Op} (h : NP (o :: l)) (hl : l ≠ []) : NP l := by
  cases l with
  | nil => exact absurd rfl hl
  | cons p r => exact h.2
theorem NP.push {o : Op} {l : List Op} (h : NP l) (ho : o.kd ≠ .prog) : NP (o :: l) := by
  cases l with
  | nil => exact h.elim
  | cons p r => exact ⟨ho, h⟩
theorem NP.same {o o' : Op} {l : List Op} (h : NP (o :: l)) (e : o'.kd = o.kd) : NP (o' :: l) := by
  cases l with
  | nil => trivial
  | cons p r => exact ⟨by rw [e]; exact h.1, h.2⟩
theorem NP.addP {l : List Op} {p : Pt} (h : NP l) : NP (RS.addP p l) := by
  cases l with
  | nil => exact h.elim
  | cons o r => exact h.same rfl
theorem BdT.mono {N M : Nat} {l : List Op} (h : BdT N l) (e : N ≤ M) : BdT M l := fun op ho => ⟨Nat.le_trans (h op ho).1 e, fun d hd => Nat.le_trans ((h op ho).2 d hd) e⟩
theorem BdT.addP {N : Nat} {l : List Op} {p : Pt} (h : BdT N l) : BdT (N + 1) (RS.addP p l) := by
  cases l with
  | nil => exact fun op ho => by cases ho
  | cons o r =>
    intro op ho
    rcases List.mem_cons.mp (show op ∈ { o with cu := o.cu ++ [p] } :: r from ho) with e | e
    · subst e
      have := h o List.mem_cons_self
      exact ⟨by show (o.cu ++ [p]).length ≤ N + 1; rw [List.length_append]; have := this.1; simp; omega, fun d hd => Nat.le_trans (this.2 d hd) (Nat.le_succ _)⟩
    · have := h op (List.mem_cons_of_mem _ e)
      exact ⟨Nat.le_trans this.1 (Nat.le_succ _), fun d hd => Nat.le_trans (this.2 d hd) (Nat.le_succ _)⟩
theorem BdT.push {N : Nat} {l : List Op} {k : Kd} (h : BdT N l) : BdT (N + 1) (⟨k, none, []⟩ :: l) := fun op ho => by
  rcases List.mem_cons.mp ho with e | e
  · subst e
    exact ⟨Nat.zero_le _, fun d hd => nomatch hd⟩
  · exact (h.mono (Nat.le_succ N)) op e
theorem needSize_inv {α : Type} {ws : List Str} {n : Nat} {x y : α} (h : needSize ws n x = .ok y) : x = y := by
  rcases needSize_cases ws n with ⟨e, he⟩ | ⟨hl, he⟩
  · rw [he x] at h
    cases h
  · rw [he x] at h
    cases h
    rfl
theorem take_inv {st st' : Rd} {ws : List Str} {N : Nat} (h : takeR st ws = .ok st') (i : InvR N st) : InvR (N + 1) st' := by
  cases ws with
  | nil =>
    rw [takeR] at h
    cases h
    exact ⟨i.np, i.bd.mono (Nat.le_succ _), by have := i.tw; omega, by have := i.pr; omega⟩
  | cons first r =>
    rw [takeR] at h
    split at h
    · cases h
    · split at h
      · unfold takeNames at h
        split at h
        · cases h
        · split at h
          · cases h
          · cases h
            exact ⟨i.np, i.bd.mono (Nat.le_succ _), by have := i.tw; show st.tw.length ≤ _; omega, by have := i.pr; show st.procs.length ≤ _; omega⟩
      · split at h
        · unfold takeTo at h
          split at h
          · cases h
          · split at h
            · cases h
            · have e := needSize_inv h
              subst e
              exact ⟨i.np.push (by simp), i.bd.push, by have := i.tw; show (_ :: st.tw).length ≤ _; rw [List.length_cons]; omega, by have := i.pr; show st.procs.length ≤ _; omega⟩
        · split at h
          · unfold takeTurn at h
            split at h
            · cases h
            · rename_i hc
              rw [not_or] at hc
              have e := needSize_inv h
              subst e
              cases htw : st.tw with
              | nil => exact absurd htw i.np.ne
              | cons top rest =>
                have hnp := i.np
                have hbd := i.bd
                have htl := i.tw
                have hpl := i.pr
                rw [htw] at hnp hbd htl hc
                rw [List.length_cons] at htl
                have hrest : rest ≠ [] := fun z => by
                  rw [z] at hc
                  exact hc.2 rfl
                split
                · unfold elseR
                  rw [htw]
                  refine ⟨hnp.same rfl, fun op ho => ?_, by show (_ :: rest).length ≤ _; rw [List.length_cons]; omega, by show st.procs.length ≤ _; omega⟩
                  rcases List.mem_cons.mp ho with e | e
                  · subst e
                    refine ⟨Nat.zero_le _, fun d hd => ?_⟩
                    have hd' : some top.cu = some d := hd
                    cases hd'
                    exact Nat.le_trans (hbd top List.mem_cons_self).1 (Nat.le_succ _)
                  · exact (hbd.mono (Nat.le_succ N)) op (List.mem_cons_of_mem _ e)
                · have hr := hnp.pop hrest
                  have hbr : BdT N rest := fun op ho => hbd op (List.mem_cons_of_mem _ ho)
                  have hput : ∀ p, InvR (N + 1) { st with tw := RS.addP p rest } := fun p => ⟨hr.addP, hbr.addP, by show (RS.addP p rest).length ≤ _; rw [addP_len]; omega, by show st.procs.length ≤ _; omega⟩
                  unfold closeR
                  rw [htw]
                  dsimp only
                  split
                  · exact ⟨hr, hbr.mono (Nat.le_succ _), by show rest.length ≤ _; omega, by show (st.procs ++ [_]).length ≤ _; rw [List.length_append]; simp; omega⟩
                  · exact hput _
                  · exact hput _
                  · exact hput _
                  · rename_i hk
                    match rest, hrest, hnp with
                    | _ :: _, _, hnp => exact absurd hk hnp.1
          · unfold takePart at h
            split at h
            · cases h
            · dsimp only at h
              split at h
              · split at h
                · cases h
                · cases h
                  refine ⟨i.np.push ?_, i.bd.push, by have := i.tw; show (_ :: st.tw).length ≤ _; rw [List.length_cons]; omega, by have := i.pr; show st.procs.length ≤ _; omega⟩
                  dsimp only
                  split <;> simp
              · split at h
                · split at h
                  · cases h
                  · have e := needSize_inv h
                    subst e
                    exact ⟨i.np.push (by simp), i.bd.push, by have := i.tw; show (_ :: st.tw).length ≤ _; rw [List.length_cons]; omega, by have := i.pr; show st.procs.length ≤ _; omega⟩
                · split at h
                  · cases h
                  · cases h
                    exact ⟨i.np.addP, i.bd.addP, by have := i.tw; show (RS.addP _ st.tw).length ≤ _; rw [addP_len]; omega, by have := i.pr; show st.procs.length ≤ _; omega⟩
theorem rd0_inv : InvR 0 rd0 := ⟨trivial, fun op ho => by
  rw [show rd0.tw = [⟨.prog, none, []⟩] from rfl, List.mem_singleton] at ho
  subst ho
  exact ⟨Nat.zero_le _, fun d hd => nomatch hd⟩, by decide, by decide⟩
/-! ### a line -/
def spTake (CR CO CL : Addr) : Sp := fun vs H Q E => ∃ (R : RA) (st : Rd) (wl : Addr) (ws : List Str) (line : Int) (N : Nat), vs = [.ref R.r, .int line, .ref wl] ∧ RdOk CR CO H R st ∧ H wl = some (.lst (ws.map V.str)) ∧ wl ∉ R.cs ∧ okWs ws ∧ ws ≠ [] ∧ InvR N st ∧ N ≤ 20000 ∧ Post CR CO CL R wl (takeR st ws) line H Q E
section
variable {P : Program} {w : World} {K : PySem.W.Frag} {mg : Str → Option Value} {base : Heap} {a : Ads}
theorem c_Take (T : Txt K mg w a) : MetG (CXX P w) P w K mg base 29 a.cR "take" (spTake a.cR a.cO a.cBL) [] := by
  have M_Reader_fail : MetG (CXX P w) P w K mg base 3 a.cR "fail" (spRFail a.cR a.cBL) [] := c_RFail T
  have M_Reader_take_names : MetG (CXX P w) P w K mg base 4 a.cR "take_names" (spTakeNames a.cR a.cO a.cBL) [] := c_TakeNames T
  have M_Reader_take_procedure : MetG (CXX P w) P w K mg base 5 a.cR "take_procedure" (spTakeTo a.cR a.cO a.cBL) [] := c_TakeTo T
  have M_Reader_take_turn : MetG (CXX P w) P w K mg base 5 a.cR "take_turn" (spTurn a.cR a.cO a.cBL) [] := c_Turn T
  have M_Reader_take_part : MetG (CXX P w) P w K mg base 28 a.cR "take_part" (spPart a.cR a.cO a.cBL) [] := c_Part T
  obtain ⟨f, fd, D, hm⟩ := T.m_Reader_take
  refine ⟨f, fd, _, [], T.cl_Reader, hm, D.ok sc_Reader_take (fun vs H Q E h => ?_) (fun cdv A outer s H vs Q E hr h => ⟨_, (pss_cons (ps_set (i := 3) sc_Reader_take.nd rfl (Or.inl rfl) (pe_ix ix_list (pv 2) pe_int (fun _ _ => rfl)))
      (pss_cons (ps_if (PW.pt (pw_or (pt_cmpR op_notIn_seq (pv 3) (C8.pe_gc (by rfl) T.g_KEPT_WORDS) (by rfl)) (pw_or1 (pt_cmpR op_ne (pe_cmpR op_eq (pv 3) pe_str (nomark _)) (pe_cmpR op_isN (pe_fld (pv 0) rfl) pe_non (nomark _)) (nomark _))))) (pss_one (ps_expr (pe_mX M_Reader_fail hr (by omega) (passes_call (takes_of rfl rfl rfl rfl) (fun _ _ _ _ h => h)) (pv 0) (pa_cons (pv 1) (pa_cons pe_int pa_nil))))) pss_nil)
      (pss_one (ps_if (pt_cmpR op_eq (pv 3) pe_str (nomark _)) (pss_one (ps_expr (pe_mX M_Reader_take_names hr (by omega) (passes_call (takes_of rfl rfl rfl rfl) (fun _ _ _ _ h => h)) (pv 0) (pa_cons (pv 1) (pa_cons (pv 2) pa_nil))))) (pss_one (ps_if (pt_cmpR op_eq (pv 3) pe_str (nomark _)) (pss_one (ps_expr (pe_mX M_Reader_take_procedure hr (by omega) (passes_call (takes_of rfl rfl rfl rfl) (fun _ _ _ _ h => h)) (pv 0) (pa_cons (pv 1) (pa_cons (pv 2) pa_nil))))) (pss_one (ps_if (pt_cmpR op_in_seq (pv 3) (pe_tup (pa_cons pe_str (pa_cons pe_str pa_nil))) (by rfl)) (pss_one (ps_expr (pe_mX M_Reader_take_turn hr (by omega) (passes_call (takes_of rfl rfl rfl rfl) (fun _ _ _ _ h => h)) (pv 0) (pa_cons (pv 1) (pa_cons (pv 2) pa_nil))))) (pss_one (ps_expr (pe_mX M_Reader_take_part hr (by omega) (passes_call (takes_of rfl rfl rfl rfl) (fun _ _ _ _ h => h)) (pv 0) (pa_cons (pv 1) (pa_cons (pv 2) pa_nil))))))))))))), ?_⟩), D.bindsN (fun _ _ _ _ _ _ us hl => match us, hl with | [_, _, _], _ => rfl), .nil⟩
  · obtain ⟨R, st, wl, ws, line, N, rfl, _⟩ := h
    rfl
  · obtain ⟨R, st, wl, ws, line, N, rfl, hR, hw, hnw, ok, hne, hi, hN, k⟩ := h
    obtain ⟨first, r, rfl⟩ : ∃ first r, ws = first :: r := by
      cases ws with
      | nil => exact absurd rfl hne
      | cons x r => exact ⟨x, r, rfl⟩
    have L : LineAt a.cR a.cO H R st wl (first :: r) N := ⟨hR, hw, hnw, ok, by rw [List.length_cons]; omega, hi.pr, hi.tw, hi.bd, hN⟩
    have h0 : (first :: r)[0]? = some first := rfl
    obtain ⟨dx, nv, h1, h2⟩ := hR.ins
    rw [takeR] at k
    refine q_asg (v := .str first) (wat (ev_var rfl) hw ev_c (i := 0) h0) fun H1 e1 => ?_
    have hnn : decide (nv = .non) = st.names.isNone := by
      cases hn : st.names with
      | none =>
        rw [hn] at h2
        exact decide_eq_true h2
      | some l =>
        rw [hn] at h2
        obtain ⟨na, e, _⟩ := h2
        exact decide_eq_false (by rw [e]; simp)
    refine q_when (b := decide (first ∉ kept ∨ decide (first = "names") ≠ st.names.isNone)) (et_is (et_or (a := !decide (first ∈ kept)) (b := !decide (decide (first = "names") = st.names.isNone)) (et_test (ev_op (ev_var rfl) ev_c (rv_niTs (T.keptT _)))) fun _ =>
        et_test (ev_is (ev_op (ev_eqS (b := decide (first = "names")) (ev_var rfl) ev_c rfl) (ev_isN (ev_fld (ev_var rfl) (e1 _ _ h1) T.cl_Reader T.n_Reader_names rfl) hnn) (rv_ne rfl)) (by
          by_cases h : decide (first = "names") = st.names.isNone
          · rw [decide_eq_true h, decide_eq_true (congrArg V.bl h)]
          · rw [decide_eq_false h, decide_eq_false fun z => h (V.bl.inj z)]))) (by
        by_cases c1 : first ∈ kept
        · rw [decide_eq_true c1]
          by_cases c2 : decide (first = "names") = st.names.isNone
          · rw [decide_eq_true c2]
            exact (decide_eq_false fun z => z.elim (fun q => q c1) fun q => q c2).symm
          · rw [decide_eq_false c2]
            exact (decide_eq_true (.inr c2)).symm
        · rw [decide_eq_false c1]
          exact (decide_eq_true (.inl c1)).symm)) (fun h H2 e2 => ?_) (fun h H2 e2' => ?_)
    · rw [if_pos (of_decide_eq_true h)] at k
      exact s_out (a_rfail (ev_var rfl) (hR.insR.ex (e1.trans e2)) (ea_cons (ev_var rfl) (ea_cons ev_c ea_nil)) ((k.err rfl).ex (e1.trans e2)))
    · have hc := of_decide_eq_false h
      rw [if_neg hc] at k
      rw [not_or] at hc
      have e2 := e1.trans e2'
      have e2k : ∀ {H3 : Hp}, Ex H H3 → ∀ c ∈ R.cs, ∃ o, H3 c = some o := fun e => (hR.ex e).known
      by_cases c1 : first = "names"
      · rw [if_pos c1] at k
        refine s_if (b := true) (et_w (ev_var rfl) (decide_eq_true c1)) (fun _ H3 e3' => ?_) fun h => nomatch h
        have e3 := e2.trans e3'
        exact a_meth (ev_var rfl) (e3 _ _ h1) rfl (ea_cons (ev_var rfl) (ea_cons (ev_var rfl) ea_nil)) fun H4 e4 => ⟨R, st, wl, _, line, N, rfl, L.ex (e3.trans e4), k.mono (.of_ex (e3.trans e4)) (e2k (e3.trans e4))⟩
      · rw [if_neg c1] at k
        refine s_if (b := false) (et_w (ev_var rfl) (decide_eq_false c1)) (fun h => nomatch h) fun _ H3 e3' => ?_
        have e3 := e2.trans e3'
        obtain ⟨names, hn⟩ : ∃ names, st.names = some names := by
          cases hn : st.names with
          | none =>
            have := hc.2
            rw [hn, decide_eq_false c1] at this
            exact absurd (fun z => nomatch z) this
          | some l => exact ⟨l, rfl⟩
        by_cases c2 : first = "to"
        · rw [if_pos c2] at k
          refine s_if (b := true) (et_w (ev_var rfl) (decide_eq_true c2)) (fun _ H4 e4' => ?_) fun h => nomatch h
          have e4 := e3.trans e4'
          exact a_meth (ev_var rfl) (e4 _ _ h1) rfl (ea_cons (ev_var rfl) (ea_cons (ev_var rfl) ea_nil)) fun H5 e5 => ⟨R, st, wl, _, line, N, rfl, L.ex (e4.trans e5), by rw [← c2]; rfl, k.mono (.of_ex (e4.trans e5)) (e2k (e4.trans e5))⟩
        · rw [if_neg c2] at k
          refine s_if (b := false) (et_w (ev_var rfl) (decide_eq_false c2)) (fun h => nomatch h) fun _ H4 e4' => ?_
          have e4 := e3.trans e4'
          by_cases c3 : first = "else" ∨ first = "end"
          · rw [if_pos c3] at k
            refine s_if (b := true) (et_is (et_test (ev_inUs (l := ["else", "end"]) (ev_var rfl) (ea_cons ev_c (ea_cons ev_c ea_nil)) (by decide))) (decide_eq_true (by simpa using c3))) (fun _ H5 e5' => ?_) fun h => nomatch h
            have e5 := e4.trans e5'
            exact a_meth (ev_var rfl) (e5 _ _ h1) rfl (ea_cons (ev_var rfl) (ea_cons (ev_var rfl) ea_nil)) fun H6 e6 => ⟨R, st, wl, _, first, line, N, rfl, L.ex (e5.trans e6), h0, hi.np.ne, hi.np.top, c3, k.mono (.of_ex (e5.trans e6)) (e2k (e5.trans e6))⟩
          · rw [if_neg c3] at k
            refine s_if (b := false) (et_is (et_test (ev_inUs (l := ["else", "end"]) (ev_var rfl) (ea_cons ev_c (ea_cons ev_c ea_nil)) (by decide))) (decide_eq_false (by simpa using c3))) (fun h => nomatch h) fun _ H5 e5' => ?_
            have e5 := e4.trans e5'
            exact a_meth (ev_var rfl) (e5 _ _ h1) rfl (ea_cons (ev_var rfl) (ea_cons (ev_var rfl) ea_nil)) fun H6 e6 => ⟨R, st, names, wl, _, first, line, N, rfl, L.ex (e5.trans e6), h0, hi.np.ne, hn, k.mono (.of_ex (e5.trans e6)) (e2k (e5.trans e6))⟩
end
end RS
end
section
set_option Elab.async false
set_option linter.all false
set_option maxRecDepth 100000
set_option maxHeartbeats 4000000
/-! W19: read_blocks. -/
namespace RS
open PySem L2 TL Evl
/-! ### raise BadString() -/
structure OwnG (K : PySem.W.Frag) (mg : Str → Option Value) (x : Str) (C : Addr) : Prop where
  q : PySem.W.excIn K C PySem.HandSPX.veTail "ValueError.__new__" = true
  gC : mg x = some (.ref C)
  kC : PySem.W.keepIn K (.ref C) = true
  sub : PySem.W.subIn K (.ref C) (.type "BaseException") = some true
  ty : PySem.W.typeIn K (.ref C) = some (.type "type")
theorem pmk_own0G {X : Cx} {x : Str} {C : Addr} {p pos : Pos} (c : OwnG X.K X.mg x C) (hg : Gl X x) (hdb : (x == ("__debug__" : Str)) = false := by decide) : PMk X (.Call (.Name x p) [] [] pos) (fun _ H Q => Q (.ref C) none H) := by
  intro pins s σ H Q I h
  refine wpAny_Call_Name_kw (ld_glob I hg c.gC ?_ hdb)
  refine PySem.W.callWith_K0 I.kIn c.kC ?_
  show wpAny _ _ (call (.ref C) []) _ _ _
  obtain ⟨bm, N, nm, qn, bs, hdct, sn, sub, ab, col, dd, k0, k1, k2, k3, k5, mN, hC, hN, hni, T⟩ := exc_obj I.kIn c.q
  refine PySem.wpAny_call_exc_subT PySem.F.excBase_ValueError T hC hN hni (fun h' e hm => ?_) (Nat.zero_le _)
  exact mk_of I hm (raises_own c.sub c.ty) h (I.hok.gone hm.new)
/-! ### texts cut -/
theorem pre_one (s c : Nat) (r : List Nat) : pre [s] (c :: r) = decide (c = s) := by
  by_cases h : c = s
  · subst h
    rw [decide_eq_true rfl]
    exact pre_self [c] r
  · rw [decide_eq_false h]
    exact pre_of_head [] r h
theorem spl_cut (s : Nat) : ∀ (l acc : List Nat), spl [s] 0 acc l = cutA s acc l
  | [], acc => rfl
  | c :: r, acc => by
    by_cases h : c = s
    · rw [spl_hit (by rw [pre_one]; exact decide_eq_true h), cutA, if_pos h]
      show acc :: spl [s] 0 [] r = _
      rw [spl_cut s r []]
    · rw [spl_miss (by rw [pre_one]; exact decide_eq_false h), cutA, if_neg h, spl_cut s r]
theorem split_cut {x y : Str} {s : Nat} (ey : tl y = [s]) (hk : y.cps.all (· < 256) = true) : Txt.split x y = (cut s (tl x)).map mk := by
  refine map_tl_inj ?_
  rw [split_spl _ y (by rw [ey]; simp) (kind_ok hk), ey, spl_cut, List.map_map]
  have e : (tl ∘ mk) = id := rfl
  rw [e, List.map_id]
  rfl
theorem cutA_len (s : Nat) : ∀ (l acc : List Nat), (cutA s acc l).length ≤ l.length + 1 ∧ ∀ p ∈ cutA s acc l, p.length ≤ acc.length + l.length
  | [], acc => ⟨Nat.le_refl _, fun p hp => by
    rw [cutA, List.mem_singleton] at hp
    subst hp
    exact Nat.le_add_right _ _⟩
  | c :: r, acc => by
    rw [cutA]
    split
    · obtain ⟨h1, h2⟩ := cutA_len s r []
      refine ⟨by rw [List.length_cons, List.length_cons]; omega, fun p hp => ?_⟩
      rcases List.mem_cons.mp hp with e | e
      · subst e
        exact Nat.le_add_right _ _
      · have := h2 p e
        rw [List.length_nil] at this
        rw [List.length_cons]
        omega
    · obtain ⟨h1, h2⟩ := cutA_len s r (acc ++ [c])
      refine ⟨by rw [List.length_cons]; omega, fun p hp => ?_⟩
      have := h2 p hp
      rw [List.length_append, List.length_singleton] at this
      rw [List.length_cons]
      omega
theorem cut_len (s : Nat) (l : List Nat) : (cut s l).length ≤ l.length + 1 ∧ ∀ p ∈ cut s l, p.length ≤ l.length := by
  obtain ⟨h1, h2⟩ := cutA_len s l []
  exact ⟨h1, fun p hp => by have := h2 p hp; rw [List.length_nil] at this; omega⟩
theorem given_filter {α : Type} (l : List α) (d : α) (p : α → Bool) (g : α → V) : given l.length (fun i => p (l.getD i d)) (fun i => g (l.getD i d)) = (l.filter p).map g := by
  unfold given
  have key : ∀ n, n ≤ l.length → ((List.range n).filter fun i => p (l.getD i d)).map (fun i => g (l.getD i d)) = ((l.take n).filter p).map g := fun n => by
    induction n with
    | zero => intro _; rfl
    | succ n ih =>
      intro hn
      have hlt : n < l.length := hn
      have e1 : l.getD n d = l[n] := by rw [List.getD_eq_getElem?_getD, List.getElem?_eq_getElem hlt] <;> rfl
      rw [List.range_succ, List.filter_append, List.map_append, ih (Nat.le_of_lt hn), List.take_add_one, List.getElem?_eq_getElem hlt, List.filter_append, List.map_append, List.filter_cons, e1]
      show _ ++ _ = _ ++ List.map _ (List.filter p [l[n]])
      rw [List.filter_cons]
      split
      · show _ ++ [g (l.getD n d)] = _
        rw [e1]
        rfl
      · rfl
  have e := key l.length (Nat.le_refl _)
  rw [List.take_length] at e
  exact e
section
variable {K : PySem.W.Frag} {σ : L2.St} {H : Hp} {to te ta tl' : TE} {t : TT} {tA : TA} {D : Ends} {tz : TS} {C : Addr} {E : XK}
theorem cw_turnX {H H' : Hp} {f : Nat → Bool} {v : Nat → V} {Dl : Addr} {i : Nat} {σ2 : L2.St} (p : Cw H f v Dl i H') (hi : i < 16777216) (ht : EvT t σ2 H (f i)) (he : f i = true → Ev te σ2 H (v i)) :
    t σ2 H' fun b H3 => if b = true then te σ2 H3 fun y H4 => ∃ acc, H4 Dl = some (.lst acc) ∧ acc.length < sizeLine ∧ Cw H f v Dl (i + 1) (upd H4 Dl (.lst (acc ++ [y]))) else Cw H f v Dl (i + 1) H3 := by
  obtain ⟨p1, p2, p3⟩ := p
  refine ht H' p2 _ fun H3 e3 => ?_
  cases hf : f i with
  | true =>
    show te σ2 H3 fun y H4 => ∃ acc, H4 Dl = some (.lst acc) ∧ acc.length < sizeLine ∧ Cw H f v Dl (i + 1) (upd H4 Dl (.lst (acc ++ [y])))
    refine he hf H3 (p2.trans e3) _ fun H4 e4 => ⟨given i f v, e4 Dl _ (e3 Dl _ p3), by have := given_len i f v; rw [sizeLine_eq]; omega, p1, Ex.mut ((p2.trans e3).trans e4) p1, ?_⟩
    rw [given_yes hf]
    exact upd_same
  | false =>
    show Cw H f v Dl (i + 1) H3
    refine ⟨p1, p2.trans e3, ?_⟩
    rw [given_no hf]
    exact e3 Dl _ p3
theorem el_lcNLX {xs : List V} {j : Nat} {vs : List Nat} (f : Nat → Bool) (v : Nat → V) (h : EvL tl' σ H xs) (hz : xs.length ≤ 16777216) (hw : ∀ x, wipe ((wipe σ vs).set j (some x)) vs = wipe σ vs)
    (ht : ∀ (i : Nat) (x : V) H1, Ex H H1 → xs[i]? = some x → EvT t ((wipe σ vs).set j (some x)) H1 (f i)) (he : ∀ (i : Nat) (x : V) H1, Ex H H1 → xs[i]? = some x → f i = true → Ev te ((wipe σ vs).set j (some x)) H1 (v i)) :
    EvL (tLc (iList K tl') (gName j) t te vs) σ H (given xs.length f v) := fun H0 e Q q => h H0 e _ fun a H1 ha e1 hx => ⟨a, rfl, ⟨xs, sq_of hx⟩, fun Dl hD =>
  lc_list (xs := xs) (Cw H1 f v Dl) ⟨hD, Ex.new hD, upd_same⟩ (fun i H' _ p => sq_of (p.2.1 a _ hx)) (fun i x H' hi p => ⟨hw x, cw_turnX p (by have := (List.getElem?_eq_some_iff.mp hi).1; omega) (ht i x H1 (e.trans e1) hi) (fun hf => he i x H1 (e.trans e1) hi hf)⟩)
    (fun H' p => q Dl H' (fresh_back e1 p.1) (e1.trans p.2.1) p.2.2)⟩
def rSplit : V → List V → Hp → VK → Prop := fun x xs H Q => ∃ a b, x = .str a ∧ xs = [.str b] ∧ (b.length == 0) = false ∧ a.length + 2 ≤ sizeLine ∧ rNewStrs (Txt.split a b) H Q
theorem el_split {x y : Str} (h : Ev to σ H (.str x)) (he : Ev te σ H (.str y)) (hy : (y.length == 0) = false) (hx : x.length + 2 ≤ 16777216) : EvL (tM1 rSplit to te) σ H ((Txt.split x y).map V.str) := fun H1 e Q q =>
  h H1 e _ fun H2 e2 => ⟨⟨x, rfl⟩, he H2 (e.trans e2) _ fun H3 e3 => ⟨x, y, rfl, rfl, hy, by rw [sizeLine_eq]; exact hx, fun p hp => q p _ (fresh_back (e2.trans e3) hp) ((e2.trans e3).trans (Ex.new hp)) upd_same⟩⟩
theorem q_reader {CR CO : Addr} {i j : Nat} {x y : Str} (h : Ev to σ H (.str x)) (he : Ev te σ H (.str y)) (hy : (y.length == 0) = false) (hx : x.length + 2 ≤ 16777216)
    (k : ∀ (R : RA) (la : Addr) H1, Ex H H1 → RdOk CR CO H1 R rd0 → (∀ c ∈ R.cs, H c = none) → H1 la = some (.lst ((Txt.split x y).map V.str)) → la ∉ R.cs → tz D ((σ.set i (some (.ref R.r))).set j (some (.ref la))) H1) :
    tSeq (tPar i j (tCons (tMake CR (spReaderI CR CO) [] E0 tNil) (tCons (tM1 rSplit to te) tNil))) tz D σ H := by
  intro r dx hr hdx hne
  refine ⟨r, dx, rfl, upd_same, fun R H' eR hk hR hc => ⟨rfl, ?_⟩⟩
  have e1 : Ex H H' := fun b u hu => by
    have m1 : b ≠ r := ne_of_none hu hr
    exact hk b u m1 (by rw [upd_ne m1, upd_ne (ne_of_none hu hdx)]; exact hu)
  refine el_split h he hy hx H' e1 _ fun la H1 hla e2 hla1 => ⟨.ref r, .ref la, rfl, ?_⟩
  rw [← eR]
  refine k R la H1 (e1.trans e2) (hR.ex e2) (fun c hcc => ?_) hla1 (fun z => ?_)
  · rcases hc c hcc with q | q
    · rw [q]
      exact hr
    · have n1 : c ≠ r := fresh_ne upd_same q
      have n2 : c ≠ dx := fun z => by
        rw [z, upd_ne hne, upd_same] at q
        cases q
      rw [upd_ne n1, upd_ne n2] at q
      exact q
  · obtain ⟨o, ho⟩ := hR.known la z
    rw [ho] at hla
    cases hla
theorem ev_neNilV {p : Addr} {l : List Str} (ha : Ev ta σ H (.ref p)) (hp : H p = some (.lst (l.map V.str))) (hl : ∀ x ∈ l, ∀ c ∈ tl x, c < 1114112) : Ev (tOp (rNeM K) ta (tLst tNil)) σ H (.bl (!l.isEmpty)) :=
  ev_opL ha (el_lst ea_nil (Nat.zero_le _)) fun q H1 hq e H2 e2 Q k => ⟨.list (l.map PyData.str), .list [], .lst (sq_of (e2 _ _ (e _ _ hp))) (Dp.strs l), .lst (sq_of (e2 _ _ hq)) .nil, canL_strs hl, can_nil, min_lnil _, by
    have h : (l.map PyData.str).isEmpty = l.isEmpty := by cases l <;> rfl
    rw [eqv_lnil, h]
    exact k H2 (Ex.refl H2)⟩
/-- tuple(xs) -/
theorem eu_tupL {p : Addr} {xs : List V} (h : Ev te σ H (.ref p)) (hp : H p = some (.lst xs)) : EvU (tCB (rTup K) (tCons te tNil)) σ H xs := fun H1 e Q q =>
  h H1 e _ fun H2 e2 => ⟨p, xs, rfl, .inl ⟨sq_of (e2 _ _ (e _ _ hp)), fun l hl => q l _ (fresh_back e2 hl) (e2.trans (Ex.new hl)) upd_same⟩⟩
theorem s_ret3 {t1 t2 t3 : TE} {v : V} {xs ys : List V} (h1 : Ev t1 σ H v) (h2 : EvU t2 σ H xs) (h3 : EvU t3 σ H ys) (k : ∀ p q r H1, Ex H H1 → H1 p = some (.tup xs) → H1 q = some (.tup ys) → H1 r = some (.tup [v, .ref p, .ref q]) → D.rt (.ref r) H1) :
    tRet (tTup (tCons t1 (tCons t2 (tCons t3 tNil)))) D σ H := h1 H (Ex.refl H) _ fun H1 e1 => h2 H1 e1 _ fun p H2 _ e2 hp => h3 H2 (e1.trans e2) _ fun q H3 _ e3 hq =>
  ⟨by show 3 ≤ sizeLine; exact sz_of (by decide), fun r hr => k p q r _ (((e1.trans e2).trans e3).trans (Ex.new hr)) (Ex.new hr _ _ (e3 _ _ hp)) (Ex.new hr _ _ hq) upd_same⟩
end
/-! ### the promise -/
def okT (z : Str) : Prop := z.length ≤ 1000000 ∧ (∀ l ∈ cut 10 (tl z), okWs (wordsOf l)) ∧ (fl (tl z)).length ≤ 20000
def ResR (CL : Addr) (r : Except (Nat × Nat) Pg) (H : Hp) (Q : VK) (E : XK) : Prop := match r with
  | .ok p => ∀ v H', Ex H H' → Td H' (eG p) v → Q v H'
  | .error e => RaisBL CL ((e.1 : Nat) : Int) ((e.2 : Nat) : Int) H E
theorem ResR.ok {CL : Addr} {r : Except (Nat × Nat) Pg} {H : Hp} {Q : VK} {E : XK} {p : Pg} (h : ResR CL r H Q E) (e : r = .ok p) : ∀ v H', Ex H H' → Td H' (eG p) v → Q v H' := by
  subst e
  exact h
theorem ResR.err {CL : Addr} {r : Except (Nat × Nat) Pg} {H : Hp} {Q : VK} {E : XK} {x : Nat × Nat} (h : ResR CL r H Q E) (e : r = .error x) : RaisBL CL ((x.1 : Nat) : Int) ((x.2 : Nat) : Int) H E := by
  subst e
  exact h
def spRead (K : PySem.W.Frag) (CL CS : Addr) : Sp := fun vs H Q E => (∃ z : Str, vs = [.str z] ∧ okT z ∧ ResR CL (readT (tl z)) H Q E) ∨ (∃ (v : V) (T : String), vs = [v] ∧ (∀ H1, Ex H H1 → TyX K H1 v (.type T)) ∧ kitB T "str" = some false ∧ ∀ H', Ex H H' → E (.ref CS) none H')
section
variable {P : Program} {w : World} {K : PySem.W.Frag} {mg : Str → Option Value} {base : Heap} {a : Ads}
theorem c_BadString (T : Txt K mg w a) : OwnG K mg "BadString" a.cBS := by
  obtain ⟨u, hm, hu⟩ := T.c_BadString
  obtain rfl : u = Value.ref a.cBS := hu
  exact ⟨T.in_BadString, hm, T.kp_BadString, T.xc_BadString.hs, T.ty_BadString⟩
theorem c_Read (T : Txt K mg w a) : CalG (CXX P w) P w K mg base 30 "read_blocks" (spRead K a.cBL a.cBS) [] := by
  have X_BadLine : OexG P w K mg base 1 "BadLine" a.cBL (spBLI a.cBL) [] := c_BadLine T
  have X_BadString : OwnG K mg "BadString" a.cBS := c_BadString T
  have K_Reader : MakG CX0 P w K mg base 3 "Reader" a.cR (spReaderI a.cR a.cO) [] := c_Reader T
  have M_Reader_take : MetG (CXX P w) P w K mg base 29 a.cR "take" (spTake a.cR a.cO a.cBL) [] := c_Take T
  obtain ⟨f, fd, D, hm⟩ := T.d_read_blocks
  refine ⟨f, fd, _, _, D.ok sc_read_blocks (fun vs H Q E h => ?_) (fun cdv A outer s H vs Q E hr h => ⟨_, (pss_cons (ps_if (pt_not (pt_val (pe_callB call_isi (by rfl) T.b_isinstance (by decide +kernel) (pa_cons (pv 0) (pa_cons (pe_bltn (by rfl) T.b_str (by decide +kernel) (show RelV (.ty "str") (.type "str") from rfl)) pa_nil))))) (pss_one (ps_raise rfl (takes_of rfl rfl rfl rfl) (pmk_own0G X_BadString (by rfl)))) pss_nil)
      (pss_cons (ps_par (i := 1) (j := 2) (by rfl) sc_read_blocks.nd rfl rfl (by decide) rfl rfl (pa_cons (pe_k0 K_Reader hr (by omega) (by rfl)) (pa_cons (pe_split (pv 0) pe_str) pa_nil)) (by rfl))
      (pss_cons (ps_for (passes_of rfl) rfl (pi_enum (by rfl) T.b_enumerate (pa_cons (pv 2) pa_nil)) (pg_tup (by rfl) (pgs_cons (pg_name (i := 3) sc_read_blocks.nd rfl (Or.inl rfl)) (pgs_cons (pg_name (i := 4) sc_read_blocks.nd rfl (Or.inl rfl)) pgs_nil))) (pss_cons (ps_setLc (i := 5) (own := [("word", 6)]) rfl sc_read_blocks.nd rfl rfl (sw_true rfl rfl rfl (by decide +kernel)) (pi_list (pe_split (pv 4) pe_str)) (blkOk_by (N := ["text", "reader", "lines", "at", "line", "words", "word"]) (sc := defScope st_read_blocks) (by decide +kernel)) (fun _ _ _ _ _ => (pg_name (i := 6) sc_read_blocks.nd rfl (Or.inl rfl))) (fun _ _ _ _ _ => (pts_one (pt_cmpR op_ne (pv 6) pe_str (nomark _)))) (fun _ _ _ _ _ => (pv 6)))
      (pss_one (ps_if (pt_cmpR (op_neM hr.units) (pv 5) (pe_lst pa_nil) (nomark _)) (pss_one (ps_expr (pe_mX M_Reader_take hr (by omega) (passes_call (takes_of rfl rfl rfl rfl) (fun _ _ _ _ h => h)) (pv 1) (pa_cons (pe_op op_add (pv 3) pe_int) (pa_cons (pv 5) pa_nil))))) pss_nil))))
      (pss_cons (ps_if (PW.pt (pw_or (pt_cmpR op_isN (pe_fld (pv 1) rfl) pe_non (nomark _)) (pw_or1 (pt_cmpR op_gt (pe_callB call_len_seq (by rfl) T.b_len (by decide +kernel) (pa_cons (pe_fld (pv 1) rfl) pa_nil)) pe_int (nomark _))))) (pss_one (ps_raise rfl (takes_of rfl rfl rfl rfl) (pmk_oexG X_BadLine hr (by omega) (by rfl) (pa_cons (pe_op op_add (pe_callB call_len_seq (by rfl) T.b_len (by decide +kernel) (pa_cons (pv 2) pa_nil)) pe_int) (pa_cons pe_int pa_nil))))) pss_nil)
      (pss_one (ps_ret (pe_tup (pa_cons (pe_fld (pv 1) rfl) (pa_cons (pe_callTy (call_tuple_ofK (K := K) rfl) (by rfl) T.b_tuple (by decide +kernel) (pa_cons (pe_fld (pv 1) rfl) pa_nil)) (pa_cons (pe_callTy (call_tuple_ofK (K := K) rfl) (by rfl) T.b_tuple (by decide +kernel) (pa_cons (pe_ix ix_list (pe_fld (pe_ix ix_list (pe_fld (pv 1) rfl) pe_int (fun _ _ => rfl)) rfl) pe_int (fun _ _ => rfl)) pa_nil)) pa_nil)))))))))), ?_⟩), hm, D.kp, D.bindsN (fun _ _ _ _ _ _ us hl => match us, hl with | [_], _ => rfl), .nil⟩
  · rcases h with ⟨z, rfl, _⟩ | ⟨v, T, rfl, _⟩ <;> rfl
  · rcases h with ⟨z, rfl, hz, k⟩ | ⟨v, Ty, rfl, hty, hk, k⟩
    · refine q_no (et_not (a := true) (et_B (ev_isi (ev_var rfl) ev_c (fun _ _ => ty_str) k_str_str))) fun H1 e1 => ?_
      have enl : tl ("\n" : Str) = [10] := tl_nl
      have esp : tl (" " : Str) = [32] := tl_sp
      obtain ⟨hz1, hz2, hz3⟩ := hz
      have hsp : Txt.split z "\n" = (cut 10 (tl z)).map mk := split_cut enl (by decide +kernel)
      refine q_reader (ev_var rfl) ev_c (by decide +kernel) (by omega) fun R0 la H2 e2' hR0 hc0 hla hla0 => ?_
      rw [hsp] at hla
      have e2 := e1.trans e2'
      obtain ⟨hcl1, hcl2⟩ := cut_len 10 (tl z)
      rw [← len_tl] at hcl1 hcl2
      generalize hL : cut 10 (tl z) = Ls at *
      have hrun : readT (tl z) = match runL 0 rd0 (Ls.map wordsOf) with | .error e => .error e | .ok st => finish Ls.length st := by
        unfold readT
        rw [hL] <;> rfl
      have hflL : ((Ls.map wordsOf).filter fun ws => !ws.isEmpty).length ≤ 20000 := by
        have := hz3
        unfold fl at this
        rw [hL] at this
        exact this
      refine q_forEV (xs := (Ls.map mk).map V.str) (ev_var rfl) (sq_of hla) (fun i σ' H' => ∃ (R : RA) (st : Rd) (x y u : Option V) (N : Nat), σ' = [some (.str z), some (.ref R.r), some (.ref la), x, y, u, none] ∧ Ex H H' ∧ H' la = some (.lst ((Ls.map mk).map V.str)) ∧
          RdOk a.cR a.cO H' R st ∧ la ∉ R.cs ∧ (∀ c ∈ R.cs, H c = none) ∧ InvR N st ∧ N + (((Ls.map wordsOf).drop i).filter fun ws => !ws.isEmpty).length ≤ 20000 ∧ runL 0 rd0 (Ls.map wordsOf) = runL i st ((Ls.map wordsOf).drop i))
        (fun H3 e3 => ⟨R0, rd0, none, none, none, 0, rfl, e2.trans e3, e3 _ _ hla, hR0.ex e3, hla0, fun c hc => fresh_back e1 (hc0 c hc), rd0_inv, by rw [List.drop_zero]; omega, by rw [List.drop_zero]⟩) (fun i σ' H' _ ⟨_, _, _, _, _, _, _, _, h, _⟩ => sq_of h) ?_ ?_
      · rintro i x t σ' H' hx ⟨R, st, x0, y0, u0, N, rfl, e, hla', hR, hlaR, hcn, hinv, hN, hru⟩ ht
        rw [List.getElem?_map, List.getElem?_map] at hx
        cases hli : Ls[i]? with
        | none =>
          rw [hli] at hx
          cases hx
        | some l =>
          rw [hli] at hx
          cases hx
          have hil := (List.getElem?_eq_some_iff.mp hli).1
          have hlm := List.mem_of_getElem? hli
          have hdr : (Ls.map wordsOf).drop i = wordsOf l :: (Ls.map wordsOf).drop (i + 1) := by
            rw [List.drop_eq_getElem_cons (by rw [List.length_map]; exact hil)]
            congr 1
            rw [List.getElem_map, (List.getElem?_eq_some_iff.mp hli).2]
          rw [hdr] at hru hN
          have hll := hcl2 l hlm
          have okl := hz2 l hlm
          obtain ⟨hpc1, hpc2⟩ := cut_len 32 l
          have et := Ex.new (H := H') (o := HO.tup [.int (i : Nat), .str (mk l)]) ht
          refine g_two upd_same ?_
          generalize hG : upd H' t (HO.tup [.int (i : Nat), .str (mk l)]) = G
          rw [hG] at et
          have eG' := e.trans et
          have hRG := hR.ex et
          have hspl : Txt.split (mk l) " " = (cut 32 l).map mk := split_cut (x := mk l) esp (by decide +kernel)
          have hmkl : (mk l).length = l.length := len_tl _
          refine q_asgL (xs := (wordsOf l).map V.str) ?_ fun wl H3 hwl0 e3 hwl => ?_
          · have eg : given (((cut 32 l).map mk).map V.str).length (fun i => !((cut 32 l).getD i []).isEmpty) (fun i => V.str (mk ((cut 32 l).getD i []))) = (wordsOf l).map V.str := by
              rw [List.length_map, List.length_map, given_filter (cut 32 l) [] (fun w => !w.isEmpty) (fun w => V.str (mk w))]
              unfold wordsOf
              rw [List.map_map]
              rfl
            rw [← eg]
            refine el_lcNLX _ _ (el_is (el_split (ev_var rfl) ev_c (by decide +kernel) (by rw [hmkl]; omega)) (by rw [hspl])) (by rw [List.length_map, List.length_map]; omega) (fun x => rfl) (fun j x H4 e4 hx => ?_) (fun j x H4 e4 hx hf => ?_)
            · rw [List.getElem?_map, List.getElem?_map] at hx
              cases hp : (cut 32 l)[j]? with
              | none =>
                rw [hp] at hx
                cases hx
              | some p =>
                rw [hp] at hx
                cases hx
                rw [List.getD_eq_getElem?_getD, hp]
                refine et_test (ev_neS (x := mk p) (ev_var rfl) ev_c ?_)
                show (!decide (mk p = "")) = !p.isEmpty
                congr 1
                cases p with
                | nil => exact decide_eq_true (by decide +kernel)
                | cons c r => exact decide_eq_false fun z => nomatch (show c :: r = [] from (congrArg tl z).trans (by decide +kernel))
            · rw [List.getElem?_map, List.getElem?_map] at hx
              cases hp : (cut 32 l)[j]? with
              | none =>
                rw [hp] at hx
                cases hx
              | some p =>
                rw [hp] at hx
                cases hx
                rw [List.getD_eq_getElem?_getD, hp]
                exact ev_var rfl
          · have e3H := eG'.trans e3
            have hwn : wl ∉ R.cs := fun q => by
              obtain ⟨o, ho⟩ := hRG.known wl q
              rw [ho] at hwl0
              cases hwl0
            have hwla : wl ≠ la := fresh_ne (et _ _ hla') hwl0
            refine s_when (b := !(wordsOf l).isEmpty) (et_test (ev_neNilV (ev_var rfl) hwl (fun x hx c hc => by have := (okl.2 x hx).1 c hc; omega))) (fun hne H4 e4 => ?_) (fun hne H4 e4 => ?_)
            · have hne' : wordsOf l ≠ [] := fun q => by
                rw [q] at hne
                cases hne
              have hR4 := hRG.ex (e3.trans e4)
              obtain ⟨dx, nv, h1⟩ := hR4.ins0
              rw [List.filter_cons, if_pos hne, List.length_cons] at hN
              rw [runL, if_neg hne'] at hru
              refine a_meth (ev_var rfl) h1 rfl (ea_cons (ev_op (ev_var rfl) ev_c rv_I0) (ea_cons (ev_var rfl) ea_nil)) fun H5 e5 => ⟨R, st, wl, wordsOf l, (i : Nat) + 1, N, rfl, hR4.ex e5, (e4.trans e5) _ _ hwl, hwn, okl, hne', hinv, by omega, .mk (fun st' hok R' H6 q1 q2 q3 q4 => ?_) fun er her => ?_⟩
              · rw [hok] at hru
                have e5H := (e3H.trans e4).trans e5
                have e6H := q2.ex e5H hcn
                have hla5 := (e3.trans (e4.trans e5)) _ _ (et _ _ hla')
                have hc' : ∀ c ∈ R'.cs, H c = none ∧ c ≠ la := fun c hc => by
                  rcases q4 c hc with q | q | q
                  · exact ⟨hcn c q, fun z => hlaR (z ▸ q)⟩
                  · rw [q]
                    exact ⟨fresh_back eG' hwl0, hwla⟩
                  · exact ⟨fresh_back e5H q, fresh_ne hla5 q⟩
                refine ⟨R', st', _, _, _, N + 1, by rw [q1]; rfl, e6H, q2 _ _ hlaR hla5, q3, fun z => (hc' la z).2 rfl, fun c hc => (hc' c hc).1, take_inv hok hinv, by omega, hru⟩
              · rw [her] at hru
                rw [hrun, hru] at k
                have e5H := (e3H.trans e4).trans e5
                have hR5 := hR4.ex e5
                intro d H6 s6 hd h6
                refine k.err rfl d H6 (s6.ex e5H hcn) (fresh_back e5H hd) ?_
                exact h6
            · have hemp : wordsOf l = [] := by
                cases h : wordsOf l with
                | nil => rfl
                | cons x r =>
                  rw [h] at hne
                  cases hne
              rw [List.filter_cons, if_neg (by rw [hne]; exact Bool.false_ne_true)] at hN
              rw [runL, if_pos hemp] at hru
              exact ⟨R, st, _, _, _, N, rfl, e3H.trans e4, (e3.trans e4) _ _ (et _ _ hla'), hRG.ex (e3.trans e4), hlaR, hcn, hinv, hN, hru⟩
      · rintro σ' H' ⟨R, st, x0, y0, u0, N, rfl, e, hla', hR, hlaR, hcn, hinv, hN, hru⟩
        rw [List.length_map, List.length_map] at hru
        rw [show (Ls.map wordsOf).drop Ls.length = [] from List.drop_eq_nil_iff.mpr (by rw [List.length_map]; exact Nat.le_refl _), runL] at hru
        rw [hrun, hru] at k
        dsimp only at k
        unfold finish at k
        obtain ⟨dx, nv, h1, h2⟩ := hR.ins
        have hnn : decide (nv = .non) = st.names.isNone := by
          cases hn : st.names with
          | none =>
            rw [hn] at h2
            exact decide_eq_true h2
          | some l =>
            rw [hn] at h2
            obtain ⟨na, e, _⟩ := h2
            exact decide_eq_false (by rw [e]; simp)
        refine q_when (b := (st.names.isNone || decide (1 < st.tw.length))) (et_or (et_test (ev_isN (ev_fld (ev_var rfl) h1 T.cl_Reader T.n_Reader_names rfl) hnn)) fun _ => et_is (et_test (ev_op (rd_len T hR (ev_var rfl)) ev_c rv_I0)) (dec_lt 1 _)) (fun h H3 e3 => ?_) (fun h H3 e3 => ?_)
        · have hlen : Ev (tCB (rLenS K) (tCons (tVar 2) tNil)) ([some (.str z), some (.ref R.r), some (.ref la), x0, y0, u0, none] : L2.St) H3 (.int (Ls.length : Nat)) := by
            have := ev_len (K := K) (ta := tVar 2) (σ := [some (.str z), some (.ref R.r), some (.ref la), x0, y0, u0, none]) (H := H3) (ev_var rfl) (sq_of (e3 _ _ hla'))
            rw [List.length_map, List.length_map] at this
            exact this
          refine s_raiseBL (ea_cons (ev_op hlen ev_c rv_I0) (ea_cons ev_c ea_nil)) ?_
          have kk : RaisBL a.cBL ((Ls.length + 1 : Nat) : Int) ((1 : Nat) : Int) H E := by
            cases hn : st.names with
            | none =>
              rw [hn] at k
              exact k
            | some l =>
              rw [hn] at k h
              have h' : 1 < st.tw.length := of_decide_eq_true h
              dsimp only at k
              rw [if_pos h'] at k
              exact k
          exact kk.mono (e.trans e3)
        · rw [Bool.or_eq_false_iff] at h
          have h' := of_decide_eq_false h.2
          cases hn : st.names with
          | none =>
            rw [hn] at h
            cases h.1
          | some names =>
          rw [hn] at k h2
          dsimp only at k
          rw [if_neg h'] at k
          obtain ⟨na, rfl, hna⟩ := h2
          obtain ⟨pvs, h3, h4⟩ := hR.pr
          have hop := hR.op
          have htl := hop.len
          have hne := hinv.np.ne
          cases htw : st.tw with
          | nil => exact absurd htw hne
          | cons op tw =>
          have htw0 : tw = [] := by
            rw [htw, List.length_cons] at h'
            exact List.eq_nil_of_length_eq_zero (by omega)
          subst htw0
          cases hops : R.ops with
          | nil =>
            rw [hops, htw] at htl
            cases htl
          | cons A ops =>
          have hops0 : ops = [] := by
            rw [hops, htw, List.length_cons, List.length_cons] at htl
            exact List.eq_nil_of_length_eq_zero (by rw [List.length_nil] at htl; omega)
          subst hops0
          rw [hops, htw] at hop
          obtain ⟨o', l', eo, r1, r2⟩ := hop
          cases eo
          obtain ⟨dxo, tv, ows, g1, g2, g3⟩ := r1.ins
          have htow := hR.tw
          rw [hops] at htow
          have hbl := r1.bk.bl
          obtain ⟨b0, hb0⟩ : ∃ b0, A.bs[0]? = some b0 := by
            have hl := hbl.len
            have : 0 < A.bs.length := by
              rw [hl]
              unfold Op.bls
              cases op.dn <;> simp
            exact ⟨_, List.getElem?_eq_getElem this⟩
          obtain ⟨blk, hblk, bvs, hb1, hb2⟩ := hbl.get hb0
          rw [bls_0] at hblk
          cases hblk
          have hbot : botB st.tw = op.b0 := by rw [htw]; rfl
          refine s_ret3 (ev_fld (ev_var rfl) (e3 _ _ h1) T.cl_Reader T.n_Reader_names rfl) (eu_tupL (ev_fld (ev_var rfl) (e3 _ _ h1) T.cl_Reader T.n_Reader_procedures rfl) (e3 _ _ h3))
            (eu_tupL (ev_op (ev_fld (ev_op (ev_fld (ev_var rfl) (e3 _ _ h1) T.cl_Reader T.n_Reader_tower rfl) ev_c (rv_ixL (sq_of (e3 _ _ htow)) (atI_nat (j := 0) (v := V.ref A.o) rfl))) (e3 _ _ g1) T.cl_Open T.n_Open_blocks rfl) ev_c (rv_ixL (sq_of (e3 _ _ r1.bl)) (atI_nat (j := 0) (v := V.ref b0) (by rw [List.getElem?_map, hb0]; rfl)))) (e3 _ _ hb1))
            fun p q r H4 e4 hp hq hr => ?_
          have e34 := e3.trans e4
          refine k _ H4 (e.trans e34) ⟨r, _, rfl, hr, _, _, rfl, ⟨na, _, rfl, e34 _ _ hna, TdL.ofStrs names⟩, _, _, rfl, ⟨p, _, rfl, hp, h4.ex e34⟩, _, _, rfl, ?_, rfl⟩
          rw [hbot]
          exact ⟨q, _, rfl, hq, hb2.ex e34⟩
    · refine q_yes (et_not (a := false) (et_B (ev_isi (ev_var rfl) ev_c hty hk))) fun H1 e1 => ?_
      exact k H1 e1
end
end RS
end
section
set_option Elab.async false
set_option linter.all false
set_option maxRecDepth 100000
set_option maxHeartbeats 4000000
/-! W20: the row of draws; picks; sums drawn. -/
namespace RS
open PySem L2 TL Evl
theorem ix_or {X : Cx} {r r' : R2} (h : IxR X r) (h' : IxR X r') : IxR X (fun x y H Q => r x y H Q ∨ r' x y H Q) := fun value slice pins s σ H x y v u Q I rx ry q hs => by
  rcases q with q | q
  · exact h value slice pins s σ H x y v u Q I rx ry q hs
  · exact h' value slice pins s σ H x y v u Q I rx ry q hs
/-- the row at r; S the script and its cells -/
def RowS (K : PySem.W.Frag) (S : Addr × List Int) (H : Hp) (r : Addr) : Prop := ∃ (i c b : Int), S.1 ≠ r ∧ SqL K H S.1 (S.2.map V.int) ∧ H r = some (.lst [.ref S.1, .int i, .int c, .int b]) ∧ 0 ≤ i ∧ 0 ≤ c ∧ c < 2147483647
theorem sq_same {K : PySem.W.Frag} {H H' : Hp} {C : List Addr} {a : Addr} {xs : List V} (s : Same C H H') (n : a ∉ C) (h : SqL K H a xs) : SqL K H' a xs := by
  rcases h with (h | ⟨o, h⟩) | h
  · exact Or.inl (Or.inl (s a _ n h))
  · exact Or.inl (Or.inr ⟨o, s a _ n h⟩)
  · exact Or.inr h
theorem RowS.ex {K : PySem.W.Frag} {S : Addr × List Int} {H H' : Hp} {r : Addr} (e : Ex H H') (h : RowS K S H r) : RowS K S H' r := by
  obtain ⟨i, c, b, h1, h2, h3, h4⟩ := h
  exact ⟨i, c, b, h1, ex_l e h2, e _ _ h3, h4⟩
/-- a list that is not the script -/
def LOk (K : PySem.W.Frag) (S : Addr × List Int) (l : Addr) : Prop := l ≠ S.1 ∨ ∀ H', SqL K H' S.1 (S.2.map V.int)
theorem RowS.lok {K : PySem.W.Frag} {S : Addr × List Int} {H : Hp} {r l : Addr} (h : RowS K S H r) (hl : H l = none) : LOk K S l := by
  obtain ⟨i, c, b, h1, h2, h3, h4⟩ := h
  rcases h2 with (h | ⟨o, h⟩) | h
  · exact .inl fun z => by
      rw [← z, hl] at h
      cases h
  · exact .inl fun z => by
      rw [← z, hl] at h
      cases h
  · exact .inr fun H' => Or.inr h
theorem RowS.upd {K : PySem.W.Frag} {S : Addr × List Int} {H : Hp} {r l : Addr} {o' : HO} (h : RowS K S H r) (hl : l ≠ r) (hk : LOk K S l) : RowS K S (L2.upd H l o') r := by
  obtain ⟨i, c, b, h1, h2, h3, h4⟩ := h
  refine ⟨i, c, b, h1, ?_, by rw [upd_ne (Ne.symm hl)]; exact h3, h4⟩
  rcases hk with hk | hk
  · rcases h2 with (h | ⟨o, h⟩) | h
    · exact Or.inl (Or.inl (by rw [upd_ne (Ne.symm hk)]; exact h))
    · exact Or.inl (Or.inr ⟨o, by rw [upd_ne (Ne.symm hk)]; exact h⟩)
    · exact Or.inr h
  · exact hk _
theorem RowS.at_ {K : PySem.W.Frag} {S : Addr × List Int} {H : Hp} {r : Addr} (h : RowS K S H r) : ∃ xs, H r = some (.lst xs) := by
  obtain ⟨i, c, b, h1, h2, h3, h4⟩ := h
  exact ⟨_, h3⟩
theorem Same.tk1 {K : PySem.W.Frag} {S : Addr × List Int} {H H' : Hp} {r : Addr} (s : Same [r] H H') (h : RowS K S H r) : TK H H' := s.tk fun c hc xs z => by
  obtain ⟨ys, h3⟩ := h.at_
  rw [List.mem_singleton.mp hc, h3] at z
  cases z
theorem Same.td {K : PySem.W.Frag} {S : Addr × List Int} {H H' : Hp} {r : Addr} {d : Dt} {v : V} (s : Same [r] H H') (h : RowS K S H r) (t : Td H d v) : Td H' d v := Td.tk (s.tk1 h) _ _ t
theorem Same.tdL {K : PySem.W.Frag} {S : Addr × List Int} {H H' : Hp} {r : Addr} {d : List Dt} {v : List V} (s : Same [r] H H') (h : RowS K S H r) (t : TdL H d v) : TdL H' d v := TdL.tk (s.tk1 h) _ _ t
/-! ### what a drawing evaluates to -/
def EvD (K : PySem.W.Frag) (S : Addr × List Int) (r : Addr) (te : TE) (σ : L2.St) (H : Hp) (P : Dt → Prop) : Prop := ∀ H1, Same [r] H H1 → RowS K S H1 r → ∀ Q : VK, (∀ v d H2, Same [r] H1 H2 → RowS K S H2 r → P d → Td H2 d v → Q v H2) → te σ H1 Q
def EvDs (K : PySem.W.Frag) (S : Addr × List Int) (r : Addr) (tA : TA) (σ : L2.St) (H : Hp) (P : List Dt → Prop) : Prop := ∀ H1, Same [r] H H1 → RowS K S H1 r → ∀ Q : List V → Hp → Prop, (∀ vs ds H2, Same [r] H1 H2 → RowS K S H2 r → P ds → TdL H2 ds vs → Q vs H2) → tA σ H1 Q
section
variable {K : PySem.W.Frag} {S : Addr × List Int} {r : Addr} {σ : L2.St} {H H' : Hp} {te ta tb : TE} {tA ts : TA} {P P' : Dt → Prop} {Pl Pl' : List Dt → Prop} {D : Ends} {tz : TS}
theorem EvD.mono (s : Same [r] H H') (h : EvD K S r te σ H P) : EvD K S r te σ H' P := fun H1 s1 => h H1 (s.trans s1)
theorem EvD.imp (h : EvD K S r te σ H P) (i : ∀ d, P d → P' d) : EvD K S r te σ H P' := fun H1 s1 r1 Q q => h H1 s1 r1 Q fun v d H2 s2 r2 p t => q v d H2 s2 r2 (i d p) t
theorem EvDs.imp (h : EvDs K S r tA σ H Pl) (i : ∀ d, Pl d → Pl' d) : EvDs K S r tA σ H Pl' := fun H1 s1 r1 Q q => h H1 s1 r1 Q fun v d H2 s2 r2 p t => q v d H2 s2 r2 (i d p) t
theorem ed_var {i : Nat} {v : V} {d : Dt} (hr : RowS K S H r) (h : σ[i]? = some (some v)) (t : Td H d v) (p : P d) : EvD K S r (tVar i) σ H P := fun H1 s1 r1 Q q => ⟨v, h, q v d H1 Same.refl r1 p (s1.td hr t)⟩
theorem ed_int {i : Int} (p : P (.int i)) : EvD K S r (tC (.int i)) σ H P := fun H1 s1 r1 Q q => q _ (.int i) H1 Same.refl r1 p rfl
theorem ed_str {x : Str} (p : P (.str x)) : EvD K S r (tC (.str x)) σ H P := fun H1 s1 r1 Q q => q _ (.str x) H1 Same.refl r1 p rfl
theorem eds_nil (p : Pl []) : EvDs K S r tNil σ H Pl := fun H1 s1 r1 Q q => q [] [] H1 Same.refl r1 p rfl
theorem eds_cons (h1 : EvD K S r te σ H P) (h2 : EvDs K S r ts σ H Pl) : EvDs K S r (tCons te ts) σ H (fun ds => ∃ d r, ds = d :: r ∧ P d ∧ Pl r) := fun H1 s1 r1 Q q =>
  h1 H1 s1 r1 _ fun v d H2 s2 r2 p t => h2 H2 (s1.trans s2) r2 _ fun vs ds H3 s3 r3 pl tl => q (v :: vs) (d :: ds) H3 (s2.trans s3) r3 ⟨d, ds, rfl, p, pl⟩ ⟨v, vs, rfl, s3.td r2 t, tl⟩
theorem ed_tup (h : EvDs K S r ts σ H Pl) (hl : ∀ ds, Pl ds → ds.length ≤ 1000) : EvD K S r (tTup ts) σ H (fun d => ∃ ds, d = .tup ds ∧ Pl ds) := fun H1 s1 r1 Q q =>
  h H1 s1 r1 _ fun vs ds H2 s2 r2 pl tl => ⟨sz_of (by have := hl ds pl; have := tl.len; omega), fun p hp => q _ (.tup ds) _ (s2.trans (.of_ex (Ex.new hp))) (r2.ex (Ex.new hp)) ⟨ds, rfl, pl⟩ ⟨p, vs, rfl, upd_same, tl.ex (Ex.new hp)⟩⟩
/-- a call of a drawing def -/
theorem ed_fn {sp : Sp} {vs : List V} (h : ∀ H1, EvA tA σ H1 vs) (hs : ∀ H1, Same [r] H H1 → RowS K S H1 r → ∀ Q : VK, (∀ v d H2, Same [r] H1 H2 → RowS K S H2 r → P d → Td H2 d v → Q v H2) → ∀ E, sp (vs ++ []) H1 Q E) : EvD K S r (tCall sp [] E0 tA) σ H P := fun H1 s1 r1 Q q =>
  h H1 H1 (Ex.refl H1) _ fun H2 e2 => hs H2 (s1.trans (.of_ex e2)) (r1.ex e2) Q (fun v d H3 s3 r3 p t => q v d H3 (Same.trans (.of_ex e2) s3) r3 p t) E0
theorem ed_if {t : TT} {b : Bool} (h : ∀ H1, EvT t σ H1 b) (h1 : b = true → EvD K S r ta σ H P) (h2 : b = false → EvD K S r tb σ H P) : EvD K S r (tIf t ta tb) σ H P := fun H1 s1 r1 Q q =>
  h H1 H1 (Ex.refl H1) _ fun H2 e2 => by
    have s2 : Same [r] H1 H2 := .of_ex e2
    cases b with
    | true =>
      show ta σ H2 Q
      exact h1 rfl H2 (s1.trans s2) (r1.ex e2) Q fun v d H3 s3 r3 p t => q v d H3 (s2.trans s3) r3 p t
    | false =>
      show tb σ H2 Q
      exact h2 rfl H2 (s1.trans s2) (r1.ex e2) Q fun v d H3 s3 r3 p t => q v d H3 (s2.trans s3) r3 p t
theorem qd_asg {i : Nat} (hr : RowS K S H r) (h : EvD K S r te σ H P) (k : ∀ v d H1, Same [r] H H1 → RowS K S H1 r → P d → Td H1 d v → tz D (σ.set i (some v)) H1) : tSeq (tAsg te (gName i)) tz D σ H := h H Same.refl hr _ k
theorem sd_asg {i : Nat} (hr : RowS K S H r) (h : EvD K S r te σ H P) (k : ∀ v d H1, Same [r] H H1 → RowS K S H1 r → P d → Td H1 d v → D.nx (σ.set i (some v)) H1) : tAsg te (gName i) D σ H := h H Same.refl hr _ k
theorem sd_ret (hr : RowS K S H r) (h : EvD K S r te σ H P) (k : ∀ v d H1, Same [r] H H1 → RowS K S H1 r → P d → Td H1 d v → D.rt v H1) : tRet te D σ H := h H Same.refl hr _ k
theorem sd_app {l : Addr} {xs : List V} (hr : RowS K S H r) (hl : H l = some (.lst xs)) (hlr : l ≠ r) (ha : ∀ H1, Ev ta σ H1 (.ref l)) (hz : xs.length < 100000) (h : EvD K S r te σ H P) (k : ∀ v d H1, Same [r] H H1 → RowS K S H1 r → P d → Td H1 d v → D.nx σ (upd H1 l (.lst (xs ++ [v])))) :
    tDrop (tBM K "list" rAppend ta (tCons te tNil)) D σ H := ha H H (Ex.refl H) _ fun H1 e1 =>
  ⟨Or.inl ⟨rfl, xs, sq_of (e1 _ _ hl)⟩, h H1 (.of_ex e1) (hr.ex e1) _ fun v d H2 s2 r2 p t => ⟨l, xs, v, rfl, rfl, s2 l _ (by simpa using hlr) (e1 _ _ hl), sz_lt hz, k v d H2 (Same.trans (.of_ex e1) s2) r2 p t⟩⟩
end
/-! ### the promises -/
def spTaken (K : PySem.W.Frag) (S : Addr × List Int) : Sp := fun vs H Q _ => ∃ (r : Addr) (m : Nat), vs = [.ref r, .int m] ∧ 1 ≤ m ∧ m ≤ 100000 ∧ RowS K S H r ∧ ∀ (n : Nat) H', Same [r] H H' → RowS K S H' r → n < m → Q (.int n) H'
def spPick (K : PySem.W.Frag) (S : Addr × List Int) : Sp := fun vs H Q _ => ∃ (r t : Addr) (xs : List V), vs = [.ref r, .ref t] ∧ 1 ≤ xs.length ∧ xs.length ≤ 1000 ∧ t ≠ r ∧ (H t = some (.lst xs) ∨ H t = some (.tup xs)) ∧ RowS K S H r ∧ ∀ v H', Same [r] H H' → RowS K S H' r → v ∈ xs → Q v H'
/-- a drawn sum -/
def DrS (names : List Str) (m : Nat) (d : Dt) : Prop := ∃ s, d = eS s ∧ okSm names s ∧ deep s ≤ m ∧ terms s ≤ 2 ^ m
theorem mod_nat {i : Int} {m : Nat} (h : 1 ≤ m) : ∃ n : Nat, i % (m : Int) = (n : Int) ∧ n < m := by
  have h1 : 0 ≤ i % (m : Int) := Int.emod_nonneg _ (by omega)
  have h2 : i % (m : Int) < (m : Int) := Int.emod_lt_of_pos _ (by omega)
  exact ⟨(i % (m : Int)).toNat, by omega, by omega⟩
def rInt1 : List V → Hp → VK → Prop := fun xs H Q => (∃ i, xs = [.int i] ∧ Q (.int i) H) ∨ ∃ k, xs = [.bl k] ∧ Q (.int (if k then 1 else 0)) H
theorem ev_int1 {σ : L2.St} {H : Hp} {te : TE} {i : Int} (h : Ev te σ H (.int i)) : Ev (tCB rInt1 (tCons te tNil)) σ H (.int i) := ev_cb (ea_cons h ea_nil) fun H1 e Q q => .inl ⟨i, rfl, q H1 (Ex.refl H1)⟩
theorem log_m {m : Nat} (h : m ≤ 100000) : ((m : Int)).natAbs.log2 < 1920 := log_ok (by omega)
section
variable {S : Addr × List Int} {P : Program} {w : World} {K : PySem.W.Frag} {mg : Str → Option Value} {base : Heap} {a : Ads}
theorem c_taken (T : Txt K mg w a) : CalG CX0 P w K mg base 1 "_law_taken" (spTaken K S) [] := by
  obtain ⟨f, fd, D, hm⟩ := T.d__law_taken
  refine ⟨f, fd, _, _, D.ok sc__law_taken (fun vs H Q E h => ?_) (fun cdv A outer s H vs Q E hr h => ⟨_, PSs.nox ((pss_cons (ps_if (pt_cmpR op_gt (pe_ix ix_list (pv 0) pe_int (fun _ _ => rfl)) pe_int (nomark _)) (pss_cons (ps_set (i := 2) sc__law_taken.nd rfl (Or.inl rfl) (pe_op op_mod (pe_callTy call_int1 (by rfl) T.b_int (by decide +kernel) (pa_cons (pe_ix ix_list (pv 0) pe_int (fun _ _ => rfl)) pa_nil)) (pv 1)))
      (pss_cons (ps_asg (pe_op op_fdivW (pe_ix ix_list (pv 0) pe_int (fun _ _ => rfl)) (pv 1)) (pg_sub (pv 0) pe_int set_list))
      (pss_one (ps_ret (pv 2))))) pss_nil)
      (pss_cons (ps_asg (pe_op op_add (pe_ix ix_list (pv 0) pe_int (fun _ _ => rfl)) pe_int) (pg_sub (pv 0) pe_int set_list))
      (pss_cons (ps_if (pt_cmpR op_gt (pe_ix ix_list (pv 0) pe_int (fun _ _ => rfl)) (pe_callB call_len_seq (by rfl) T.b_len (by decide +kernel) (pa_cons (pe_ix ix_list (pv 0) pe_int (fun _ _ => rfl)) pa_nil)) (nomark _)) (pss_cons (ps_asg (pe_op op_mod (pe_callTy call_int1 (by rfl) T.b_int (by decide +kernel) (pa_cons (pe_op op_add (pe_op op_mul (pe_ix ix_list (pv 0) pe_int (fun _ _ => rfl)) pe_int) pe_int) pa_nil)) pe_int) (pg_sub (pv 0) pe_int set_list))
      (pss_one (ps_ret (pe_op op_mod (pe_callTy call_int1 (by rfl) T.b_int (by decide +kernel) (pa_cons (pe_op op_fdivW (pe_ix ix_list (pv 0) pe_int (fun _ _ => rfl)) pe_int) pa_nil)) (pv 1))))) pss_nil)
      (pss_cons (ps_set (i := 3) sc__law_taken.nd rfl (Or.inl rfl) (pe_ix ix_list (pe_ix ix_list (pv 0) pe_int (fun _ _ => rfl)) (pe_op op_sub (pe_ix ix_list (pv 0) pe_int (fun _ _ => rfl)) pe_int) (fun _ _ => rfl)))
      (pss_cons (ps_asg (pe_op op_mod (pe_callTy call_int1 (by rfl) T.b_int (by decide +kernel) (pa_cons (pe_op op_add (pe_op op_add (pe_op op_mul (pe_ix ix_list (pv 0) pe_int (fun _ _ => rfl)) pe_int) (pv 3)) pe_int) pa_nil)) pe_int) (pg_sub (pv 0) pe_int set_list))
      (pss_cons (ps_if (pt_cmpR op_ge (pv 3) (pe_op op_pow pe_int pe_int) (nomark _)) (pss_one (ps_asg (pe_op op_fdivW (pv 3) (pv 1)) (pg_sub (pv 0) pe_int set_list))) pss_nil)
      (pss_one (ps_ret (pe_op op_mod (pe_callTy call_int1 (by rfl) T.b_int (by decide +kernel) (pa_cons (pv 3) pa_nil)) (pv 1))))))))))), ?_⟩), hm, D.kp, D.bindsN (fun _ _ _ _ _ _ us hl => match us, hl with | [_, _], _ => rfl), .nil⟩
  · obtain ⟨r, m, rfl, _⟩ := h
    rfl
  · obtain ⟨r, m, rfl, hm1, hm2, ⟨i, c, b, n1, n2, n3, n4, n5, n6⟩, k⟩ := h
    obtain ⟨sc, ns⟩ := S
    dsimp only at n1 n2 n3
    have hmI : (0 : Int) < (m : Int) := by omega
    have hdiv : ∀ x, CDivW x (m : Int) := fun x => ⟨hmI, by have := log_m hm2; omega⟩
    have row : ∀ {H1 : Hp} {i c b : Int} {σ : L2.St} {j : Nat} {v : V}, σ[0]? = some (some (.ref r)) → H1 r = some (.lst [.ref sc, .int i, .int c, .int b]) → ([V.ref sc, .int i, .int c, .int b])[j]? = some v → Ev (tOp (rIxL K) (tVar 0) (tC (.int (j : Nat)))) σ H1 v := fun hσ h hj => ev_op (ev_var hσ) ev_c (rv_ixL (sq_of h) (atI_nat hj))
    have mkR : ∀ {H' : Hp} {i c b : Int}, Same [r] H H' → H' r = some (.lst [.ref sc, .int i, .int c, .int b]) → 0 ≤ i → 0 ≤ c → c < 2147483647 → RowS K (sc, ns) H' r := fun s h h1 h2 h3 => ⟨_, _, _, n1, sq_same s (by simpa using n1) n2, h, h1, h2, h3⟩
    have su : ∀ {H1 H2 : Hp} {o : HO}, Same [r] H H1 → Ex H1 H2 → Same [r] H (upd H2 r o) := fun s e => (s.trans (.of_ex e)).trans (.upd (by simp))
    refine q_when (b := decide (0 < b)) (et_test (ev_op (row (j := 3) rfl n3 rfl) ev_c rv_I0)) (fun _ H1 e1 => ?_) (fun _ H1 e1 => ?_)
    · obtain ⟨n, hn1, hn2⟩ := mod_nat (i := b) hm1
      refine q_asg (v := .int n) (ev_is (ev_op (ev_int1 (row (j := 3) rfl (e1 _ _ n3) rfl)) (ev_var rfl) (rv_I hmI)) (by rw [hn1])) fun H2 e2 => ?_
      refine q_setL (j := 3) ((e1.trans e2) _ _ n3) (ev_op (row (j := 3) rfl ((e1.trans e2) _ _ n3) rfl) (ev_var rfl) (rv_I (hdiv _))) (ev_var rfl) ev_c (by simp) fun H3 e3 => ?_
      have s3 : Same [r] H (upd H3 r (.lst [.ref sc, .int i, .int c, .int (b / (m : Int))])) := su (.of_ex (e1.trans e2)) e3
      exact s_ret (v := .int n) (ev_var rfl) fun H4 e4 => k n H4 (s3.trans (.of_ex e4)) ((mkR s3 upd_same n4 n5 n6).ex e4) hn2
    · refine q_setL (j := 1) (e1 _ _ n3) (ev_op (row (j := 1) rfl (e1 _ _ n3) rfl) ev_c rv_I0) (ev_var rfl) ev_c (by simp) fun H2 e2 => ?_
      have s2 : Same [r] H (upd H2 r (.lst [.ref sc, .int (i + 1), .int c, .int b])) := su (.of_ex e1) e2
      show tSeq _ _ _ _ (upd H2 r (.lst [.ref sc, .int (i + 1), .int c, .int b]))
      generalize hG : upd H2 r (.lst [.ref sc, .int (i + 1), .int c, .int b]) = G at s2
      have g : G r = some (.lst [.ref sc, .int (i + 1), .int c, .int b]) := by rw [← hG]; exact upd_same
      have gs : SqL K G sc (ns.map V.int) := sq_same s2 (by simpa using n1) n2
      refine q_when (b := decide ((ns.length : Int) < i + 1)) (et_is (et_test (ev_op (row (j := 1) rfl g rfl) (ev_len (row (j := 0) rfl g rfl) gs) rv_I0)) (by rw [List.length_map])) (fun h H3 e3 => ?_) (fun h H3 e3 => ?_)
      · have m1 : 0 ≤ (c * 48271 + 11) % 2147483647 := Int.emod_nonneg _ (by decide)
        have m2 : (c * 48271 + 11) % 2147483647 < 2147483647 := Int.emod_lt_of_pos _ (by decide)
        refine q_setL (j := 2) (e3 _ _ g) (ev_op (ev_int1 (ev_op (ev_op (row (j := 2) rfl (e3 _ _ g) rfl) ev_c (rv_I (.inl ⟨by omega, by omega⟩))) ev_c rv_I0)) ev_c (rv_I (by decide))) (ev_var rfl) ev_c (by simp) fun H4 e4 => ?_
        have s4 : Same [r] H (upd H4 r (.lst [.ref sc, .int (i + 1), .int ((c * 48271 + 11) % 2147483647), .int b])) := su (s2.trans (.of_ex e3)) e4
        show tRet _ _ _ (upd H4 r (.lst [.ref sc, .int (i + 1), .int ((c * 48271 + 11) % 2147483647), .int b]))
        generalize hG4 : upd H4 r (.lst [.ref sc, .int (i + 1), .int ((c * 48271 + 11) % 2147483647), .int b]) = G4 at s4
        have g4 : G4 r = some (.lst [.ref sc, .int (i + 1), .int ((c * 48271 + 11) % 2147483647), .int b]) := by rw [← hG4]; exact upd_same
        obtain ⟨n, hn1, hn2⟩ := mod_nat (i := (c * 48271 + 11) % 2147483647 / 7) hm1
        refine s_ret (v := .int n) (ev_is (ev_op (ev_int1 (ev_op (row (j := 2) rfl g4 rfl) ev_c (rv_I ⟨by decide, by decide⟩))) (ev_var rfl) (rv_I hmI)) (by rw [hn1])) fun H5 e5 => k n H5 (s4.trans (.of_ex e5)) ((mkR s4 g4 (by omega) m1 m2).ex e5) hn2
      · have h' := of_decide_eq_false h
        obtain ⟨q, rfl⟩ := Int.eq_ofNat_of_zero_le n4
        have hq : q < ns.length := by omega
        have hcell : (ns.map V.int)[q]? = some (.int ns[q]) := by rw [List.getElem?_map, List.getElem?_eq_getElem hq]; rfl
        have hix : ((q : Int) + 1) - 1 = (q : Int) := by omega
        refine q_asg (v := .int ns[q]) (ev_op (row (j := 0) rfl (e3 _ _ g) rfl) (ev_op (row (j := 1) rfl (e3 _ _ g) rfl) ev_c rv_I0) (by
          show RV _ _ (.int (((q : Int) + 1) - 1)) _ _
          rw [hix]
          exact rv_ixL (ex_l e3 gs) (atI_nat hcell))) fun H4 e4 => ?_
        generalize ns[q] = cell
        have m1 : 0 ≤ (c * 48271 + cell + 11) % 2147483647 := Int.emod_nonneg _ (by decide)
        have m2 : (c * 48271 + cell + 11) % 2147483647 < 2147483647 := Int.emod_lt_of_pos _ (by decide)
        have g4 := (e3.trans e4) _ _ g
        refine q_setL (j := 2) g4 (ev_op (ev_int1 (ev_op (ev_op (ev_op (row (j := 2) rfl g4 rfl) ev_c (rv_I (.inl ⟨by omega, by omega⟩))) (ev_var rfl) rv_I0) ev_c rv_I0)) ev_c (rv_I (by decide))) (ev_var rfl) ev_c (by simp) fun H5 e5 => ?_
        have s5 : Same [r] H (upd H5 r (.lst [.ref sc, .int ((q : Int) + 1), .int ((c * 48271 + cell + 11) % 2147483647), .int b])) := su (s2.trans (.of_ex (e3.trans e4))) e5
        show tSeq _ _ _ _ (upd H5 r (.lst [.ref sc, .int ((q : Int) + 1), .int ((c * 48271 + cell + 11) % 2147483647), .int b]))
        generalize hG5 : upd H5 r (.lst [.ref sc, .int ((q : Int) + 1), .int ((c * 48271 + cell + 11) % 2147483647), .int b]) = G5 at s5
        have g5 : G5 r = some (.lst [.ref sc, .int ((q : Int) + 1), .int ((c * 48271 + cell + 11) % 2147483647), .int b]) := by rw [← hG5]; exact upd_same
        obtain ⟨n, hn1, hn2⟩ := mod_nat (i := cell) hm1
        have fin : ∀ {H6 : Hp}, Same [r] H H6 → RowS K (sc, ns) H6 r → ∀ {σ : L2.St}, σ[1]? = some (some (.int (m : Int))) → σ[3]? = some (some (.int cell)) → ∀ (D : Ends), D.rt = Q → tRet (tOp (rI (fun _ j => 0 < j) fun i j => .int (i % j)) (tCB rInt1 (tCons (tVar 3) tNil)) (tVar 1)) D σ H6 := fun {H6} s6 r6 {σ} h1 h3 D hD => by
          refine s_ret (v := .int n) (ev_is (ev_op (ev_int1 (ev_var h3)) (ev_var h1) (rv_I hmI)) (by rw [hn1])) fun H7 e7 => ?_
          rw [hD]
          exact k n H7 (s6.trans (.of_ex e7)) (r6.ex e7) hn2
        refine q_when (b := decide ((10 : Int) ^ 18 ≤ cell)) (et_test (ev_op (ev_var rfl) (ev_op ev_c ev_c (rv_I ⟨by decide, by decide, by decide⟩)) rv_I0)) (fun h H6 e6 => ?_) (fun h H6 e6 => ?_)
        · refine s_setL (j := 3) (e6 _ _ g5) (ev_op (ev_var rfl) (ev_var rfl) (rv_I (hdiv _))) (ev_var rfl) ev_c (by simp) fun H7 e7 => ?_
          have s7 : Same [r] H (upd H7 r (.lst [.ref sc, .int ((q : Int) + 1), .int ((c * 48271 + cell + 11) % 2147483647), .int (cell / (m : Int))])) := su (s5.trans (.of_ex e6)) e7
          exact fin s7 (mkR s7 upd_same (by omega) m1 m2) rfl rfl _ rfl
        · exact fin (s5.trans (.of_ex e6)) ((mkR s5 g5 (by omega) m1 m2).ex e6) rfl rfl _ rfl
theorem c_pick (T : Txt K mg w a) : CalG CX0 P w K mg base 2 "_law_pick" (spPick K S) [] := by
  have C__law_taken : CalG CX0 P w K mg base 1 "_law_taken" (spTaken K S) [] := c_taken T
  obtain ⟨f, fd, D, hm⟩ := T.d__law_pick
  refine ⟨f, fd, _, _, D.ok sc__law_pick (fun vs H Q E h => ?_) (fun cdv A outer s H vs Q E hr h => ⟨_, PSs.nox ((pss_one (ps_ret (pe_ix (ix_or ix_list ix_tup) (pv 1) (pe_f0 C__law_taken hr (by omega) (by rfl) (pa_cons (pv 0) (pa_cons (pe_callB call_len_seq (by rfl) T.b_len (by decide +kernel) (pa_cons (pv 1) pa_nil)) pa_nil))) (fun _ _ => rfl))))), ?_⟩), hm, D.kp, D.bindsN (fun _ _ _ _ _ _ us hl => match us, hl with | [_, _], _ => rfl), .nil⟩
  · obtain ⟨r, t, xs, rfl, _⟩ := h
    rfl
  · obtain ⟨r, t, xs, rfl, h1, h2, htr, ht, hR, k⟩ := h
    have hlen : Ev (tCB (rLenS K) (tCons (tVar 1) tNil)) [some (.ref r), some (.ref t)] H (.int (xs.length : Nat)) := by
      rcases ht with ht | ht
      · exact ev_len (ev_var rfl) (sq_of ht)
      · exact ev_lenT (ev_var rfl) (st_of ht)
    refine ⟨_, rfl, _, rfl, hlen H (Ex.refl H) _ fun H1 e1 => ⟨r, xs.length, rfl, h1, by omega, hR.ex e1, fun n H2 s2 r2 hn => ?_⟩⟩
    have hx : xs[n]? = some xs[n] := List.getElem?_eq_getElem hn
    rcases ht with ht | ht
    · exact .inl ⟨t, xs, (n : Nat), xs[n], rfl, rfl, sq_of (s2 t _ (by simpa using htr) (e1 _ _ ht)), atI_nat hx, k _ H2 (Same.trans (.of_ex e1) s2) r2 (List.getElem_mem hn)⟩
    · exact .inr ⟨t, xs, (n : Nat), xs[n], rfl, rfl, st_of (s2 t _ (by simpa using htr) (e1 _ _ ht)), atI_nat hx, k _ H2 (Same.trans (.of_ex e1) s2) r2 (List.getElem_mem hn)⟩
theorem tdl_mem {H : Hp} : ∀ {ds : List Dt} {vs : List V} {v : V}, TdL H ds vs → v ∈ vs → ∃ d, d ∈ ds ∧ Td H d v
  | [], _, v, h, hv => by
    rw [show _ = _ from h] at hv
    cases hv
  | d :: ds, vs, v, h, hv => by
    obtain ⟨x, r, rfl, h1, h2⟩ := h
    rcases List.mem_cons.mp hv with e | e
    · subst e
      exact ⟨d, List.mem_cons_self, h1⟩
    · obtain ⟨d', m, t⟩ := tdl_mem h2 e
      exact ⟨d', List.mem_cons_of_mem _ m, t⟩
section
variable {r : Addr} {σ : L2.St} {H : Hp} {te ta tb : TE} {ts : TA} {Pd : Dt → Prop} {Pl : List Dt → Prop} {tt : TT}
theorem RowS.ne {H : Hp} {na : Addr} {xs : List V} (h : RowS K S H r) (hn : H na = some (.tup xs)) : na ≠ r := fun z => by
  obtain ⟨ys, hy⟩ := h.at_
  rw [z, hy] at hn
  cases hn
theorem ed_taken {m : Nat} (hσ : σ[0]? = some (some (.ref r))) (h1 : 1 ≤ m) (h2 : m ≤ 100000) : EvD K S r (tCall (spTaken K S) [] E0 (tCons (tVar 0) (tCons (tC (.int (m : Nat))) tNil))) σ H (fun d => ∃ n : Nat, n < m ∧ d = .int n) :=
  ed_fn (vs := [.ref r, .int (m : Nat)]) (fun H1 => ea_cons (ev_var hσ) (ea_cons ev_c ea_nil)) fun H1 s1 r1 Q q E => ⟨r, m, rfl, h1, h2, r1, fun n H2 s2 r2 hn => q _ (.int n) H2 s2 r2 ⟨n, hn, rfl⟩ rfl⟩
theorem ed_pickT {j : Nat} {na : Addr} {names : List Str} (hr : RowS K S H r) (hσ : σ[0]? = some (some (.ref r))) (hj : σ[j]? = some (some (.ref na))) (hn : H na = some (.tup (names.map V.str))) (h1 : 1 ≤ names.length) (h5 : names.length ≤ 1000) :
    EvD K S r (tCall (spPick K S) [] E0 (tCons (tVar 0) (tCons (tVar j) tNil))) σ H (fun d => ∃ x, x ∈ names ∧ d = .str x) :=
  ed_fn (vs := [.ref r, .ref na]) (fun H1 => ea_cons (ev_var hσ) (ea_cons (ev_var hj) ea_nil)) fun H1 s1 r1 Q q E => by
    have hnr := hr.ne hn
    have hn1 := s1 na _ (by simpa using hnr) hn
    refine ⟨r, na, names.map V.str, rfl, by rw [List.length_map]; exact h1, by rw [List.length_map]; exact h5, hnr, .inr hn1, r1, fun v H2 s2 r2 hv => ?_⟩
    obtain ⟨x, hx, rfl⟩ := List.mem_map.mp hv
    exact q _ (.str x) H2 s2 r2 ⟨x, hx, rfl⟩ rfl
theorem ed_pickL (hσ : σ[0]? = some (some (.ref r))) (h : EvDs K S r ts σ H Pl) (hP : ∀ ds, Pl ds → 1 ≤ ds.length ∧ ds.length ≤ 1000 ∧ ∀ d ∈ ds, Pd d) : EvD K S r (tCall (spPick K S) [] E0 (tCons (tVar 0) (tCons (tLst ts) tNil))) σ H Pd := fun H1 s1 r1 Q q =>
  ⟨.ref r, hσ, h H1 s1 r1 _ fun vs ds H2 s2 r2 pl tl => by
    obtain ⟨p1, p2, p3⟩ := hP ds pl
    have hl := tl.len
    refine ⟨sz_of (by omega), fun p hp => ?_⟩
    have e := Ex.new (o := .lst vs) hp
    obtain ⟨ys, hy⟩ := r2.at_
    refine ⟨r, p, vs, rfl, by omega, by omega, fresh_ne hy hp, .inl upd_same, r2.ex e, fun v H3 s3 r3 hv => ?_⟩
    obtain ⟨d, hd, t⟩ := tdl_mem tl hv
    exact q v d H3 ((s2.trans (.of_ex e)).trans s3) r3 (p3 d hd) (s3.td (r2.ex e) (t.ex e))⟩
/-- an int that is drawn, compared with one written, as a value | as a test -/
theorem ed_eq0 {j : Int} (h : EvD K S r te σ H (fun d => ∃ n : Nat, d = .int n)) : EvD K S r (tOp rEq te (tC (.int j))) σ H (fun d => ∃ b, d = .bl b) := fun H1 s1 r1 Q q =>
  h H1 s1 r1 _ fun v d H2 s2 r2 ⟨n, hn⟩ t => by
    subst hn
    cases (show v = .int n from t)
    exact ⟨rfl, q _ (.bl _) H2 s2 r2 ⟨_, rfl⟩ rfl⟩
def EvB2 (K : PySem.W.Frag) (S : Addr × List Int) (r : Addr) (tt : TT) (σ : L2.St) (H : Hp) : Prop := ∀ H1, Same [r] H H1 → RowS K S H1 r → ∀ Q : Bool → Hp → Prop, (∀ b H2, Same [r] H1 H2 → RowS K S H2 r → Q b H2) → tt σ H1 Q
theorem eb_test (h : EvD K S r te σ H (fun d => ∃ b, d = .bl b)) : EvB2 K S r (tTest te) σ H := fun H1 s1 r1 Q q => h H1 s1 r1 _ fun v d H2 s2 r2 ⟨b, hb⟩ t => by
  subst hb
  cases (show v = .bl b from t)
  exact ⟨b, rfl, q b H2 s2 r2⟩
theorem ed_ifD (h : EvB2 K S r tt σ H) (h1 : EvD K S r ta σ H Pd) (h2 : EvD K S r tb σ H Pd) : EvD K S r (tIf tt ta tb) σ H Pd := fun H1 s1 r1 Q q => h H1 s1 r1 _ fun b H2 s2 r2 => by
  cases b with
  | true =>
    show ta σ H2 Q
    exact h1 H2 (s1.trans s2) r2 Q fun v d H3 s3 r3 p t => q v d H3 (s2.trans s3) r3 p t
  | false =>
    show tb σ H2 Q
    exact h2 H2 (s1.trans s2) r2 Q fun v d H3 s3 r3 p t => q v d H3 (s2.trans s3) r3 p t
theorem ed_neg {m : Nat} (h : EvD K S r te σ H (fun d => ∃ n : Nat, n < m ∧ d = .int n)) : EvD K S r (tOp (rI0 fun i j => .int (i - j)) (tC (.int 0)) te) σ H (fun d => ∃ n : Nat, n < m ∧ d = .int (0 - (n : Int))) := fun H1 s1 r1 Q q =>
  h H1 s1 r1 _ fun v d H2 s2 r2 ⟨n, hn, e⟩ t => by
    subst e
    cases (show v = .int n from t)
    exact ⟨0, n, rfl, rfl, q _ (.int (0 - (n : Int))) H2 s2 r2 ⟨n, hn, rfl⟩ rfl⟩
end
theorem drS_nam {names : List Str} {m : Nat} {x : Str} (h : x ∈ names) (hn : isName x = true) : DrS names m (.str x) := ⟨.nam x, rfl, ⟨h, hn⟩, Nat.zero_le _, Nat.one_le_two_pow⟩
theorem drS_num {names : List Str} {m : Nat} {i : Int} (h : -1000 ≤ i ∧ i ≤ 1000) : DrS names m (.int i) := ⟨.num i, rfl, h, Nat.zero_le _, Nat.one_le_two_pow⟩
def spDS (K : PySem.W.Frag) (S : Addr × List Int) (n : Nat) : Sp := fun vs H Q _ => ∃ (r na : Addr) (names : List Str) (m : Nat), vs = [.ref r, .ref na, .int (4 - (m : Int))] ∧ m ≤ 3 ∧ m < n ∧ RowS K S H r ∧ Names H na names ∧ 1 ≤ names.length ∧ names.length ≤ 5 ∧ ∀ v d H', Same [r] H H' → RowS K S H' r → DrS names m d → Td H' d v → Q v H'
theorem ed_sum {n : Nat} {r na : Addr} {σ : L2.St} {H : Hp} {names : List Str} {m j : Nat} {te : TE} (hr : RowS K S H r) (hσ : σ[0]? = some (some (.ref r))) (hj : σ[j]? = some (some (.ref na))) (hN : Names H na names) (h1 : 1 ≤ names.length) (h5 : names.length ≤ 5) (hm : m ≤ 3) (hmn : m < n)
    (hd : ∀ H1, Ev te σ H1 (.int (4 - (m : Int)))) : EvD K S r (tCall (spDS K S n) [] E0 (tCons (tVar 0) (tCons (tVar j) (tCons te tNil)))) σ H (DrS names m) :=
  ed_fn (vs := [.ref r, .ref na, .int (4 - (m : Int))]) (fun H1 => ea_cons (ev_var hσ) (ea_cons (ev_var hj) (ea_cons (hd H1) ea_nil))) fun H1 s1 r1 Q q E => ⟨r, na, names, m, rfl, hm, hmn, r1, ⟨s1 na _ (by simpa using hr.ne hN.at_) hN.at_, hN.nm⟩, h1, h5, q⟩
theorem b_sum (T : Txt K mg w a) : ∀ n, CalG CX0 P w K mg base (n + 3) "_law_sum" (spDS K S n) []
  | 0 => by
    obtain ⟨f, fd, D, hm⟩ := T.d__law_sum
    exact ⟨f, fd, ["_law_row", "_law_names", "_law_deep"], [], FnOk.never fun vs H Q E h => by
      obtain ⟨_, _, _, _, _, _, h, _⟩ := h
      omega, hm, D.kp, D.bindsN (fun _ _ _ _ _ _ us hl => match us, hl with | [_, _, _], _ => rfl), .nil⟩
  | n + 1 => by
    have C__law_sum : CalG CX0 P w K mg base (n + 3) "_law_sum" (spDS K S n) [] := b_sum T n
    have C__law_taken : CalG CX0 P w K mg base 1 "_law_taken" (spTaken K S) [] := c_taken T
    have C__law_pick : CalG CX0 P w K mg base 2 "_law_pick" (spPick K S) [] := c_pick T
    obtain ⟨f, fd, D, hm⟩ := T.d__law_sum
    refine ⟨f, fd, _, _, D.ok sc__law_sum (fun vs H Q E h => ?_) (fun cdv A outer s H vs Q E hr h => ⟨_, PSs.nox ((pss_cons (ps_set (i := 3) sc__law_sum.nd rfl (Or.inl rfl) (pe_f0 C__law_taken hr (by omega) (by rfl) (pa_cons (pv 0) (pa_cons pe_int pa_nil))))
      (pss_cons (ps_if (PW.pt (pw_and (pt_cmpR op_lt (pv 3) pe_int (nomark _)) (pw_and1 (pt_cmpR op_lt (pv 2) pe_int (nomark _))))) (pss_one (ps_ret (pe_tup (pa_cons (pe_f0 C__law_pick hr (by omega) (by rfl) (pa_cons (pv 0) (pa_cons (pe_lst (pa_cons pe_str (pa_cons pe_str pa_nil))) pa_nil))) (pa_cons (pe_f0 C__law_sum hr (by omega) (by rfl) (pa_cons (pv 0) (pa_cons (pv 1) (pa_cons (pe_op op_add (pv 2) pe_int) pa_nil)))) (pa_cons (pe_f0 C__law_sum hr (by omega) (by rfl) (pa_cons (pv 0) (pa_cons (pv 1) (pa_cons (pe_op op_add (pv 2) pe_int) pa_nil)))) pa_nil)))))) pss_nil)
      (pss_one (ps_ret (pe_f0 C__law_pick hr (by omega) (by rfl) (pa_cons (pv 0) (pa_cons (pe_lst (pa_cons (pe_f0 C__law_pick hr (by omega) (by rfl) (pa_cons (pv 0) (pa_cons (pv 1) pa_nil))) (pa_cons (pe_f0 C__law_pick hr (by omega) (by rfl) (pa_cons (pv 0) (pa_cons (pv 1) pa_nil))) (pa_cons (pe_f0 C__law_taken hr (by omega) (by rfl) (pa_cons (pv 0) (pa_cons pe_int pa_nil))) (pa_cons (pe_op op_sub pe_int (pe_f0 C__law_taken hr (by omega) (by rfl) (pa_cons (pv 0) (pa_cons pe_int pa_nil)))) pa_nil))))) pa_nil)))))))), ?_⟩), hm, D.kp, D.bindsN (fun _ _ _ _ _ _ us hl => match us, hl with | [_, _, _], _ => rfl), .nil⟩
    · obtain ⟨r, na, names, m, rfl, _⟩ := h
      rfl
    · obtain ⟨r, na, names, m, rfl, hm3, hmn, hR, hN, hn1, hn5, k⟩ := h
      refine qd_asg hR (ed_taken (m := 6) rfl (by decide) (by decide)) fun v d H1 s1 r1 ⟨q, hq, hd⟩ t => ?_
      subst hd
      cases (show v = .int q from t)
      have hN1 : ∀ {H2 : Hp}, Same [r] H H2 → Names H2 na names := fun s => ⟨s na _ (by simpa using hR.ne hN.at_) hN.at_, hN.nm⟩
      refine q_when (b := (decide ((q : Int) < 2) && decide ((4 : Int) - (m : Int) < 4))) (et_and (et_test (ev_op (ev_var rfl) ev_c rv_I0)) fun _ => et_test (ev_op (ev_var rfl) ev_c rv_I0)) (fun h H2 e2 => ?_) (fun h H2 e2 => ?_)
      · rw [Bool.and_eq_true, decide_eq_true_eq, decide_eq_true_eq] at h
        have hm0 : 1 ≤ m := by omega
        have s2 : Same [r] H H2 := s1.trans (.of_ex e2)
        have r2 := r1.ex e2
        have hdp : ∀ (σ : L2.St) H1, σ[2]? = some (some (.int (4 - (m : Int)))) → Ev (tOp (rI0 fun i j => .int (i + j)) (tVar 2) (tC (.int 1))) σ H1 (.int (4 - ((m - 1 : Nat) : Int))) := fun σ H1 h => ev_is (ev_op (ev_var h) ev_c rv_I0) (by
          have : (4 : Int) - (m : Int) + 1 = 4 - ((m - 1 : Nat) : Int) := by omega
          rw [this])
        refine sd_ret r2 (ed_tup (eds_cons (ed_pickL (Pd := fun d => ∃ p, d = .str (sgn p)) rfl (eds_cons (ed_str (P := fun d => d = .str "plus") rfl) (eds_cons (ed_str (P := fun d => d = .str "minus") rfl) (eds_nil (Pl := fun ds => ds = []) rfl))) ?_)
          (eds_cons (ed_sum (m := m - 1) r2 rfl rfl (hN1 s2) hn1 hn5 (by omega) (by omega) fun H1 => hdp _ H1 rfl) (eds_cons (ed_sum (m := m - 1) r2 rfl rfl (hN1 s2) hn1 hn5 (by omega) (by omega) fun H1 => hdp _ H1 rfl) (eds_nil (Pl := fun ds => ds = []) rfl)))) ?_) fun v d H3 s3 r3 hp t => ?_
        · rintro ds ⟨d1, l1, rfl, rfl, d2, l2, rfl, rfl, rfl⟩
          refine ⟨by decide, by decide, fun d hd => ?_⟩
          simp only [List.mem_cons, List.not_mem_nil, or_false] at hd
          rcases hd with rfl | rfl
          · exact ⟨true, rfl⟩
          · exact ⟨false, rfl⟩
        · rintro ds ⟨d1, l1, rfl, _, d2, l2, rfl, _, d3, l3, rfl, _, rfl⟩
          show 3 ≤ 1000
          decide
        · obtain ⟨ds, rfl, d1, l1, rfl, ⟨p, rfl⟩, d2, l2, rfl, ⟨x, rfl, x1, x2, x3⟩, d3, l3, rfl, ⟨y, rfl, y1, y2, y3⟩, rfl⟩ := hp
          refine k v _ H3 (s2.trans s3) r3 ⟨.bin p x y, rfl, ⟨x1, y1⟩, ?_, ?_⟩ t
          · show 1 + max (deep x) (deep y) ≤ m
            omega
          · show terms x + terms y ≤ 2 ^ m
            obtain ⟨m', rfl⟩ : ∃ m', m = m' + 1 := ⟨m - 1, by omega⟩
            rw [Nat.pow_succ]
            rw [Nat.add_sub_cancel] at x3 y3
            omega
      · have s2 : Same [r] H H2 := s1.trans (.of_ex e2)
        have r2 := r1.ex e2
        have hN2 := hN1 s2
        refine sd_ret r2 (ed_pickL (Pd := DrS names m) rfl (eds_cons (ed_pickT r2 rfl rfl hN2.at_ hn1 (by omega)) (eds_cons (ed_pickT r2 rfl rfl hN2.at_ hn1 (by omega)) (eds_cons (ed_taken (m := 4) rfl (by decide) (by decide)) (eds_cons (ed_neg (ed_taken (m := 1001) rfl (by decide) (by decide))) (eds_nil (Pl := fun ds => ds = []) rfl))))) ?_) fun v d H3 s3 r3 hp t => k v d H3 (s2.trans s3) r3 hp t
        rintro ds ⟨d1, l1, rfl, ⟨x, hx, rfl⟩, d2, l2, rfl, ⟨y, hy, rfl⟩, d3, l3, rfl, ⟨n3, h3, rfl⟩, d4, l4, rfl, ⟨n4, h4, rfl⟩, rfl⟩
        refine ⟨by simp, by simp, fun d hd => ?_⟩
        simp only [List.mem_cons, List.not_mem_nil, or_false] at hd
        rcases hd with rfl | rfl | rfl | rfl
        · exact drS_nam hx (hN.nm x hx)
        · exact drS_nam hy (hN.nm y hy)
        · exact drS_num ⟨by omega, by omega⟩
        · exact drS_num ⟨by omega, by omega⟩
theorem c_dsum (T : Txt K mg w a) : CalG CX0 P w K mg base 7 "_law_sum" (spDS K S 4) [] := b_sum T 4
end
end RS
end
section
set_option Elab.async false
set_option linter.all false
set_option maxRecDepth 100000
set_option maxHeartbeats 4000000
/-! W21: blocks drawn. -/
namespace RS
open PySem L2 TL Evl
/-- how many parts a drawn part, a drawn block has at most -/
def PS : Nat → Nat
  | 0 => 1
  | m + 1 => 1 + 2 * (3 * PS m)
def DrB (names done : List Str) (m : Nat) (d : Dt) : Prop := ∃ b, d = eB b ∧ (∀ e, e + m ≤ 6 → okB names done e b) ∧ szB b ≤ 3 * PS m
def DrP (names done : List Str) (m : Nat) (d : Dt) : Prop := ∃ p, d = eP p ∧ (∀ e, e + m ≤ 6 → okP names done e p) ∧ szP p ≤ PS m
def DrT (names : List Str) (d : Dt) : Prop := ∃ s z, d = eT s z ∧ okS names s
theorem PS_pos (m : Nat) : 1 ≤ PS m := by cases m <;> simp only [PS] <;> omega
theorem PS_le {m : Nat} (h : m ≤ 2) : PS m ≤ 43 := by
  have h3 : m = 0 ∨ m = 1 ∨ m = 2 := by omega
  rcases h3 with e | e | e <;> rw [e] <;> simp [PS]
theorem drS_ok {names : List Str} {m : Nat} {d : Dt} (h : DrS names m d) (hm : m ≤ 3) : ∃ s, d = eS s ∧ okS names s := by
  obtain ⟨s, e, h1, h2, h3⟩ := h
  have h4 : 2 ^ m ≤ 2 ^ 3 := Nat.pow_le_pow_right (by decide) hm
  exact ⟨s, e, h1, by omega, by omega⟩
theorem okB_snoc {names done : List Str} {e : Nat} : ∀ {b : List Pt} {p : Pt}, okB names done e b → okP names done e p → okB names done e (b ++ [p])
  | [], p, _, h => by
    rw [List.nil_append, okB]
    exact ⟨h, by rw [okB]; trivial⟩
  | q :: b, p, hb, h => by
    rw [okB] at hb
    rw [List.cons_append, okB]
    exact ⟨hb.1, okB_snoc hb.2 h⟩
theorem szB_snoc (p : Pt) : ∀ b : List Pt, szB (b ++ [p]) = szB b + szP p
  | [] => by simp [szB]
  | q :: b => by rw [List.cons_append, szB, szB, szB_snoc p b]; omega
def spDB (K : PySem.W.Frag) (S : Addr × List Int) (n : Nat) : Sp := fun vs H Q _ => ∃ (r na da : Addr) (names done : List Str) (m : Nat), vs = [.ref r, .ref na, .ref da, .int (3 - (m : Int))] ∧ m ≤ 2 ∧ m < n ∧ RowS K S H r ∧ Names H na names ∧ 1 ≤ names.length ∧ names.length ≤ 5 ∧ Names H da done ∧ done.length ≤ 5 ∧
  ∀ v d H', Same [r] H H' → RowS K S H' r → DrB names done m d → Td H' d v → Q v H'
section
variable {K : PySem.W.Frag} {S : Addr × List Int} {r : Addr} {σ : L2.St} {H : Hp} {te ta tb : TE} {ts tA : TA} {Pd : Dt → Prop} {Pl : List Dt → Prop} {D : Ends} {tz tu : TS}
theorem q_forD {j N : Nat} (hr : RowS K S H r) (h : EvD K S r te σ H (fun d => ∃ n : Nat, n ≤ N ∧ d = .int n)) (hN : N ≤ 100000) (Pv : Nat → L2.St → Hp → Prop) (h0 : ∀ H1, Same [r] H H1 → RowS K S H1 r → Pv 0 σ H1)
    (hs : ∀ (i : Nat) σ' H', i < N → Pv i σ' H' → tu { D with nx := Pv (i + 1), ct := Pv (i + 1), bk := tz D } (σ'.set j (some (.int (i : Int)))) H') (hd : ∀ i σ' H', i ≤ N → Pv i σ' H' → tz D σ' H') : tSeq (tFor (iRng1 (tCons te tNil)) (gName j) tu) tz D σ H :=
  h H Same.refl hr _ fun v d H1 s1 r1 ⟨n, hn, e⟩ t => by
    subst e
    cases (show v = .int n from t)
    exact ⟨(n : Int), rfl, by omega, by omega, for_range (D := { D with nx := tz D }) (lo := 0) (n := (n : Int).toNat) Pv (h0 H1 s1 r1) (fun i σ' H' hi p => by
      have e0 : (0 : Int) + (i : Int) = (i : Int) := Int.zero_add _
      show tu { D with nx := Pv (i + 1), ct := Pv (i + 1), bk := tz D } (σ'.set j (some (.int ((0 : Int) + (i : Int))))) H'
      rw [e0]
      exact hs i σ' H' (by omega) p) (fun σ' H' p => hd _ σ' H' (by omega) p)⟩
theorem ed_add1 {m : Nat} (h : EvD K S r te σ H (fun d => ∃ n : Nat, n < m ∧ d = .int n)) : EvD K S r (tOp (rI0 fun i j => .int (i + j)) (tC (.int 1)) te) σ H (fun d => ∃ n : Nat, n ≤ m ∧ d = .int n) := fun H1 s1 r1 Q q =>
  h H1 s1 r1 _ fun v d H2 s2 r2 ⟨n, hn, e⟩ t => by
    subst e
    cases (show v = .int n from t)
    refine ⟨1, n, rfl, rfl, ?_⟩
    have e1 : (1 : Int) + (n : Int) = ((n + 1 : Nat) : Int) := by omega
    show Q (.int ((1 : Int) + (n : Int))) H2
    rw [e1]
    exact q _ (.int ((n + 1 : Nat) : Int)) H2 s2 r2 ⟨n + 1, hn, rfl⟩ rfl
theorem ed_block {n : Nat} {na da : Addr} {names done : List Str} {m : Nat} (hr : RowS K S H r) (hσ : σ[0]? = some (some (.ref r))) (hN : Names H na names) (h1 : 1 ≤ names.length) (h5 : names.length ≤ 5) (hD : Names H da done) (hd5 : done.length ≤ 5) (hm : m ≤ 2) (hmn : m < n)
    (ha : ∀ H1, EvA tA σ H1 [.ref r, .ref na, .ref da, .int (3 - (m : Int))]) : EvD K S r (tCall (spDB K S n) [] E0 tA) σ H (DrB names done m) :=
  ed_fn (vs := [.ref r, .ref na, .ref da, .int (3 - (m : Int))]) ha fun H1 s1 r1 Q q E => ⟨r, na, da, names, done, m, rfl, hm, hmn, r1, ⟨s1 na _ (by simpa using hr.ne hN.at_) hN.at_, hN.nm⟩, h1, h5, ⟨s1 da _ (by simpa using hr.ne hD.at_) hD.at_, hD.nm⟩, hd5, q⟩
theorem ed_unit : EvD K S r (tTup tNil) σ H (fun d => d = .tup []) := fun H1 s1 r1 Q q => ⟨Nat.zero_le _, fun p hp => q _ (.tup []) _ (.of_ex (Ex.new hp)) (r1.ex (Ex.new hp)) rfl ⟨p, [], rfl, upd_same, rfl⟩⟩
end
/-- the state of a turn -/
structure Tn (K : PySem.W.Frag) (S : Addr × List Int) (r l : Addr) (names done : List Str) (m i : Nat) (H0 H : Hp) : Prop where
  s : Same [r] H0 H
  row : RowS K S H r
  new : H0 l = none
  lr : l ≠ r
  lk : LOk K S l
  at_ : ∃ b xs, H l = some (.lst xs) ∧ TdL H (ePs b) xs ∧ (∀ e, e + m ≤ 6 → okB names done e b) ∧ szB b ≤ i * PS m
section
variable {S : Addr × List Int} {P : Program} {w : World} {K : PySem.W.Frag} {mg : Str → Option Value} {base : Heap} {a : Ads}
theorem Tn.same {r l : Addr} {names done : List Str} {m i : Nat} {H0 H H' : Hp} (t : Tn K S r l names done m i H0 H) (s : Same [r] H H') (hr : RowS K S H' r) : Tn K S r l names done m i H0 H' := by
  obtain ⟨b, xs, h1, h2, h3, h4⟩ := t.at_
  exact ⟨t.s.trans s, hr, t.new, t.lr, t.lk, b, xs, s l _ (by simpa using t.lr) h1, s.tdL t.row h2, h3, h4⟩
theorem Tn.skip {r l : Addr} {names done : List Str} {m i : Nat} {H0 H : Hp} (t : Tn K S r l names done m i H0 H) : Tn K S r l names done m (i + 1) H0 H := by
  obtain ⟨b, xs, h1, h2, h3, h4⟩ := t.at_
  exact ⟨t.s, t.row, t.new, t.lr, t.lk, b, xs, h1, h2, h3, by rw [Nat.succ_mul]; omega⟩
/-- found.append(e) -/
theorem Tn.app {r l : Addr} {names done : List Str} {m i : Nat} {H0 H : Hp} {σ : L2.St} {ta te : TE} {D : Ends} (t : Tn K S r l names done m i H0 H) (ha : ∀ H1, Ev ta σ H1 (.ref l)) (hi : i ≤ 3) (hm : m ≤ 2) (h : EvD K S r te σ H (DrP names done m))
    (k : ∀ H1, Tn K S r l names done m (i + 1) H0 H1 → D.nx σ H1) : tDrop (tBM K "list" rAppend ta (tCons te tNil)) D σ H := by
  obtain ⟨b, xs, h1, h2, h3, h4⟩ := t.at_
  have hb := szB_len b
  have hx : xs.length = b.length := by rw [h2.len, ePs_map, List.length_map]
  have hps : PS m ≤ 43 := PS_le hm
  have : i * PS m ≤ 3 * 43 := Nat.mul_le_mul hi hps
  refine sd_app t.row h1 t.lr ha (by omega) h fun v d H1 s1 r1 ⟨p, hp, p1, p2⟩ tv => ?_
  subst hp
  have t1 := t.same s1 r1
  have hl1 : H1 l = some (.lst xs) := s1 l _ (by simpa using t.lr) h1
  have k1 : TK H1 (upd H1 l (.lst (xs ++ [v]))) := TK.upd (fun a xs h => h) hl1 (fun xs z => nomatch z)
  have hs0 : Same [r] H0 (upd H1 l (.lst (xs ++ [v]))) := fun x o hx ho => by
    have hxl : x ≠ l := fun z => by
      rw [z, t.new] at ho
      cases ho
    rw [upd_ne hxl]
    exact t1.s x o hx ho
  refine k _ ⟨hs0, r1.upd t.lr t.lk, t.new, t.lr, t.lk, b ++ [p], _, upd_same, ?_, fun e he => okB_snoc (h3 e he) (p1 e he), by rw [szB_snoc, Nat.succ_mul]; omega⟩
  rw [ePs_map, List.map_append, ← ePs_map]
  exact TdL.append (TdL.tk k1 _ _ (s1.tdL t.row h2)) (TdL.one (Td.tk k1 _ _ tv))
theorem b_block (T : Txt K mg w a) : ∀ n, CalG CX0 P w K mg base (n + 8) "_law_block" (spDB K S n) []
  | 0 => by
    obtain ⟨f, fd, D, hm⟩ := T.d__law_block
    exact ⟨f, fd, ["_law_row", "_law_names", "_law_done", "_law_deep"], [], FnOk.never fun vs H Q E h => by
      obtain ⟨_, _, _, _, _, _, _, _, h, _⟩ := h
      omega, hm, D.kp, D.bindsN (fun _ _ _ _ _ _ us hl => match us, hl with | [_, _, _, _], _ => rfl), .nil⟩
  | n + 1 => by
    have C__law_block : CalG CX0 P w K mg base (n + 8) "_law_block" (spDB K S n) [] := b_block T n
    have C__law_sum : CalG CX0 P w K mg base 7 "_law_sum" (spDS K S 4) [] := c_dsum T
    have C__law_taken : CalG CX0 P w K mg base 1 "_law_taken" (spTaken K S) [] := c_taken T
    have C__law_pick : CalG CX0 P w K mg base 2 "_law_pick" (spPick K S) [] := c_pick T
    obtain ⟨f, fd, D, hm⟩ := T.d__law_block
    refine ⟨f, fd, _, _, D.ok sc__law_block (fun vs H Q E h => ?_) (fun cdv A outer s H vs Q E hr h => ⟨_, PSs.nox ((pss_cons (ps_set (i := 4) sc__law_block.nd rfl (Or.inl rfl) (pe_lst pa_nil))
      (pss_cons (ps_for PassesOwn.never rfl (pi_range1 (by rfl) T.b_range (pa_cons (pe_op op_add pe_int (pe_f0 C__law_taken hr (by omega) (by rfl) (pa_cons (pv 0) (pa_cons pe_int pa_nil)))) pa_nil)) (pg_name (i := 5) sc__law_block.nd rfl (Or.inl rfl)) (pss_cons (ps_set (i := 6) sc__law_block.nd rfl (Or.inl rfl) (pe_f0 C__law_taken hr (by omega) (by rfl) (pa_cons (pv 0) (pa_cons pe_int pa_nil))))
      (pss_one (ps_if (pt_cmpR op_lt (pv 6) pe_int (nomark _)) (pss_one (ps_expr (pe_bm PySem.F.plainAttrs_list PySem.F.slot_list_append PySem.F.type_list_append mt_append (pv 4) (pa_cons (pe_tup (pa_cons pe_str (pa_cons (pe_f0 C__law_pick hr (by omega) (by rfl) (pa_cons (pv 0) (pa_cons (pv 1) pa_nil))) (pa_cons (pe_f0 C__law_sum hr (by omega) (by rfl) (pa_cons (pv 0) (pa_cons (pv 1) (pa_cons pe_int pa_nil)))) pa_nil)))) pa_nil)))) (pss_one (ps_if (pt_cmpR op_eq (pv 6) pe_int (nomark _)) (pss_one (ps_expr (pe_bm PySem.F.plainAttrs_list PySem.F.slot_list_append PySem.F.type_list_append mt_append (pv 4) (pa_cons (pe_tup (pa_cons pe_str (pa_cons (pe_f0 C__law_sum hr (by omega) (by rfl) (pa_cons (pv 0) (pa_cons (pv 1) (pa_cons pe_int pa_nil)))) pa_nil))) pa_nil)))) (pss_one (ps_if (pt_cmpR op_eq (pv 6) pe_int (nomark _)) (pss_one (ps_expr (pe_bm PySem.F.plainAttrs_list PySem.F.slot_list_append PySem.F.type_list_append mt_append (pv 4) (pa_cons (pe_tup (pa_cons pe_str (pa_cons (pe_f0 C__law_pick hr (by omega) (by rfl) (pa_cons (pv 0) (pa_cons (pv 1) pa_nil))) pa_nil))) pa_nil)))) (pss_one (ps_if (PW.pt (pw_and (pt_cmpR op_eq (pv 6) pe_int (nomark _)) (pw_and1 (pt_cmpR (op_neM hr.units) (pv 2) (pe_tup pa_nil) (nomark _))))) (pss_one (ps_expr (pe_bm PySem.F.plainAttrs_list PySem.F.slot_list_append PySem.F.type_list_append mt_append (pv 4) (pa_cons (pe_tup (pa_cons pe_str (pa_cons (pe_f0 C__law_pick hr (by omega) (by rfl) (pa_cons (pv 0) (pa_cons (pv 2) pa_nil))) pa_nil))) pa_nil)))) (pss_one (ps_if (PW.pt (pw_and (pt_cmpR op_gt (pv 6) pe_int (nomark _)) (pw_and1 (pt_cmpR op_lt (pv 3) pe_int (nomark _))))) (pss_cons (ps_set (i := 7) sc__law_block.nd rfl (Or.inl rfl) (pe_f0 C__law_block hr (by omega) (by rfl) (pa_cons (pv 0) (pa_cons (pv 1) (pa_cons (pv 2) (pa_cons (pe_op op_add (pv 3) pe_int) pa_nil))))))
      (pss_cons (ps_set (i := 8) sc__law_block.nd rfl (Or.inl rfl) (pe_tup (pa_cons (pe_f0 C__law_pick hr (by omega) (by rfl) (pa_cons (pv 0) (pa_cons (pe_lst (pa_cons (pe_f0 C__law_pick hr (by omega) (by rfl) (pa_cons (pv 0) (pa_cons (pv 1) pa_nil))) (pa_cons (pe_f0 C__law_sum hr (by omega) (by rfl) (pa_cons (pv 0) (pa_cons (pv 1) (pa_cons pe_int pa_nil)))) pa_nil))) pa_nil))) (pa_cons (pe_cmpR op_eq (pe_f0 C__law_taken hr (by omega) (by rfl) (pa_cons (pv 0) (pa_cons pe_int pa_nil))) pe_int (nomark _)) pa_nil))))
      (pss_cons (ps_set (i := 9) sc__law_block.nd rfl (Or.inl rfl) (pe_ifExp (pt_cmpR op_eq (pe_f0 C__law_taken hr (by omega) (by rfl) (pa_cons (pv 0) (pa_cons pe_int pa_nil))) pe_int (nomark _)) (pe_f0 C__law_block hr (by omega) (by rfl) (pa_cons (pv 0) (pa_cons (pv 1) (pa_cons (pv 2) (pa_cons (pe_op op_add (pv 3) pe_int) pa_nil))))) (pe_tup pa_nil)))
      (pss_one (ps_expr (pe_bm PySem.F.plainAttrs_list PySem.F.slot_list_append PySem.F.type_list_append mt_append (pv 4) (pa_cons (pe_f0 C__law_pick hr (by omega) (by rfl) (pa_cons (pv 0) (pa_cons (pe_lst (pa_cons (pe_tup (pa_cons pe_str (pa_cons (pv 8) (pa_cons (pv 7) (pa_cons (pv 9) pa_nil))))) (pa_cons (pe_tup (pa_cons pe_str (pa_cons (pv 8) (pa_cons (pv 7) pa_nil)))) (pa_cons (pe_tup (pa_cons pe_str (pa_cons (pe_f0 C__law_taken hr (by omega) (by rfl) (pa_cons (pv 0) (pa_cons pe_int pa_nil))) (pa_cons (pv 7) pa_nil)))) pa_nil)))) pa_nil))) pa_nil))))))) (pss_one (ps_if (pt_cmpR op_eq (pv 6) pe_int (nomark _)) (pss_one (ps_expr (pe_bm PySem.F.plainAttrs_list PySem.F.slot_list_append PySem.F.type_list_append mt_append (pv 4) (pa_cons (pe_tup (pa_cons pe_str pa_nil)) pa_nil)))) pss_nil))))))))))))))
      (pss_one (ps_ret (pe_callTy call_tuple_of (by rfl) T.b_tuple (by decide +kernel) (pa_cons (pv 4) pa_nil))))))), ?_⟩), hm, D.kp, D.bindsN (fun _ _ _ _ _ _ us hl => match us, hl with | [_, _, _, _], _ => rfl), .nil⟩
    · obtain ⟨r, na, da, names, done, m, rfl, _⟩ := h
      rfl
    · obtain ⟨r, na, da, names, done, m, rfl, hm2, hmn, hR, hN, hn1, hn5, hD, hd5, k⟩ := h
      refine q_asgL (xs := []) (el_lst ea_nil (Nat.zero_le _)) fun l H1 hl0 e1 hl => ?_
      have r1 := hR.ex e1
      obtain ⟨ys, hy⟩ := hR.at_
      have hlr : l ≠ r := fresh_ne hy hl0
      have t1 : Tn K S r l names done m 0 H H1 := ⟨.of_ex e1, r1, hl0, hlr, hR.lok hl0, [], [], hl, rfl, fun e _ => by rw [okB]; trivial, by rw [szB]; omega⟩
      refine q_forD (N := 3) r1 (ed_add1 (ed_taken (m := 3) rfl (by decide) (by decide))) (by decide) (fun i σ' H' => ∃ x5 x6 x7 x8 x9 : Option V, σ' = [some (.ref r), some (.ref na), some (.ref da), some (.int (3 - (m : Int))), some (.ref l), x5, x6, x7, x8, x9] ∧ Tn K S r l names done m i H H')
        (fun H2 s2 r2 => ⟨none, none, none, none, none, rfl, t1.same s2 r2⟩) ?_ ?_
      · rintro i σ' H' hi ⟨x5, x6, x7, x8, x9, rfl, t⟩
        refine qd_asg t.row (ed_taken (m := 10) rfl (by decide) (by decide)) fun v d H2 s2 r2 ⟨q, hq, e⟩ tv => ?_
        subst e
        cases (show v = .int q from tv)
        have t2 := t.same s2 r2
        have hNs : ∀ {H3 : Hp}, Tn K S r l names done m i H H3 → Names H3 na names := fun t => ⟨t.s na _ (by simpa using hR.ne hN.at_) hN.at_, hN.nm⟩
        have hDs : ∀ {H3 : Hp}, Tn K S r l names done m i H H3 → Names H3 da done := fun t => ⟨t.s da _ (by simpa using hR.ne hD.at_) hD.at_, hD.nm⟩
        have hps := PS_pos m
        refine s_if (b := decide ((q : Int) < 3)) (et_test (ev_op (ev_var rfl) ev_c rv_I0)) (fun _ H3 e3 => ?_) (fun _ H3 e3 => ?_)
        · have t3 := t2.same (.of_ex e3) (r2.ex e3)
          refine t3.app (fun H1 => ev_var rfl) (by omega) hm2 ((ed_tup (eds_cons (ed_str (P := fun d => d = .str "let") rfl) (eds_cons (ed_pickT t3.row rfl rfl (hNs t3).at_ hn1 (by omega)) (eds_cons (ed_sum (m := 3) t3.row rfl rfl (hNs t3) hn1 hn5 (by decide) (by decide) fun H1 => ev_c) (eds_nil (Pl := fun ds => ds = []) rfl)))) ?_).imp ?_) fun H4 t4 => ⟨_, _, _, _, _, rfl, t4⟩
          · rintro ds ⟨d1, l1, rfl, _, d2, l2, rfl, _, d3, l3, rfl, _, rfl⟩
            show 3 ≤ 1000
            decide
          · rintro d ⟨ds, rfl, d1, l1, rfl, rfl, d2, l2, rfl, ⟨x, hx, rfl⟩, d3, l3, rfl, hs, rfl⟩
            obtain ⟨s, rfl, hs'⟩ := drS_ok hs (by decide)
            exact ⟨.letP x s, by rw [eP], fun e _ => by rw [okP]; exact ⟨hx, hs'⟩, by rw [szP]; exact hps; all_goals (intros; contradiction)⟩
        · have t3 := t2.same (.of_ex e3) (r2.ex e3)
          refine s_if (b := decide ((q : Int) = 3)) (et_test (ev_eqI (ev_var rfl) ev_c rfl)) (fun _ H4 e4 => ?_) (fun _ H4 e4 => ?_)
          · have t4 := t3.same (.of_ex e4) (t3.row.ex e4)
            refine t4.app (fun H1 => ev_var rfl) (by omega) hm2 ((ed_tup (eds_cons (ed_str (P := fun d => d = .str "say") rfl) (eds_cons (ed_sum (m := 3) t4.row rfl rfl (hNs t4) hn1 hn5 (by decide) (by decide) fun H1 => ev_c) (eds_nil (Pl := fun ds => ds = []) rfl))) ?_).imp ?_) fun H5 t5 => ⟨_, _, _, _, _, rfl, t5⟩
            · rintro ds ⟨d1, l1, rfl, _, d2, l2, rfl, _, rfl⟩
              show 2 ≤ 1000
              decide
            · rintro d ⟨ds, rfl, d1, l1, rfl, rfl, d3, l3, rfl, hs, rfl⟩
              obtain ⟨s, rfl, hs'⟩ := drS_ok hs (by decide)
              exact ⟨.say s, by rw [eP], fun e _ => by rw [okP]; exact hs', by rw [szP]; exact hps; all_goals (intros; contradiction)⟩
          · have t4 := t3.same (.of_ex e4) (t3.row.ex e4)
            refine s_if (b := decide ((q : Int) = 4)) (et_test (ev_eqI (ev_var rfl) ev_c rfl)) (fun _ H5 e5 => ?_) (fun _ H5 e5 => ?_)
            · have t5 := t4.same (.of_ex e5) (t4.row.ex e5)
              refine t5.app (fun H1 => ev_var rfl) (by omega) hm2 ((ed_tup (eds_cons (ed_str (P := fun d => d = .str "ask") rfl) (eds_cons (ed_pickT t5.row rfl rfl (hNs t5).at_ hn1 (by omega)) (eds_nil (Pl := fun ds => ds = []) rfl))) ?_).imp ?_) fun H6 t6 => ⟨_, _, _, _, _, rfl, t6⟩
              · rintro ds ⟨d1, l1, rfl, _, d2, l2, rfl, _, rfl⟩
                show 2 ≤ 1000
                decide
              · rintro d ⟨ds, rfl, d1, l1, rfl, rfl, d3, l3, rfl, ⟨x, hx, rfl⟩, rfl⟩
                exact ⟨.ask x, by rw [eP], fun e _ => by rw [okP]; exact hx, by rw [szP]; exact hps; all_goals (intros; contradiction)⟩
            · have t5 := t4.same (.of_ex e5) (t4.row.ex e5)
              have hD5 := hDs t5
              refine s_if (b := (decide ((q : Int) = 5) && !(done.map Dt.str).isEmpty)) (et_and (et_test (ev_eqI (ev_var rfl) ev_c rfl)) fun _ => et_test (ev_neU (ds := done.map Dt.str) (ev_var rfl) ⟨da, _, rfl, hD5.at_, TdL.ofStrs done⟩ ?_)) (fun h H6 e6 => ?_) (fun _ H6 e6 => ?_)
              · have key : ∀ l : List Str, (∀ x ∈ l, isName x = true) → dtAs (l.map Dt.str) := by
                  intro l
                  induction l with
                  | nil => intro _; trivial
                  | cons x r ih => intro h; exact ⟨asc_name (h x List.mem_cons_self), ih fun y hy => h y (List.mem_cons_of_mem _ hy)⟩
                exact key done hD.nm
              · have t6 := t5.same (.of_ex e6) (t5.row.ex e6)
                have hd1 : 1 ≤ done.length := by
                  rw [Bool.and_eq_true] at h
                  cases hdn : done with
                  | nil =>
                    rw [hdn] at h
                    exact absurd h.2 (by decide)
                  | cons x r => rw [List.length_cons]; omega
                refine t6.app (fun H1 => ev_var rfl) (by omega) hm2 ((ed_tup (eds_cons (ed_str (P := fun d => d = .str "do") rfl) (eds_cons (ed_pickT t6.row rfl rfl (hDs t6).at_ hd1 (by omega)) (eds_nil (Pl := fun ds => ds = []) rfl))) ?_).imp ?_) fun H6 t6 => ⟨_, _, _, _, _, rfl, t6⟩
                · rintro ds ⟨d1, l1, rfl, _, d2, l2, rfl, _, rfl⟩
                  show 2 ≤ 1000
                  decide
                · rintro d ⟨ds, rfl, d1, l1, rfl, rfl, d3, l3, rfl, ⟨x, hx, rfl⟩, rfl⟩
                  exact ⟨.doP x, by rw [eP], fun e _ => by rw [okP]; exact hx, by rw [szP]; exact hps; all_goals (intros; contradiction)⟩
              · have t6 := t5.same (.of_ex e6) (t5.row.ex e6)
                refine s_if (b := (decide ((5 : Int) < (q : Int)) && decide ((3 : Int) - (m : Int) < 3))) (et_and (et_test (ev_op (ev_var rfl) ev_c rv_I0)) fun _ => et_test (ev_op (ev_var rfl) ev_c rv_I0)) (fun h H7 e7 => ?_) (fun _ H7 e7 => ?_)
                · have t7 := t6.same (.of_ex e7) (t6.row.ex e7)
                  rw [Bool.and_eq_true, decide_eq_true_eq, decide_eq_true_eq] at h
                  obtain ⟨m', rfl⟩ : ∃ m', m = m' + 1 := ⟨m - 1, by omega⟩
                  have hargs : ∀ (σ : L2.St), σ[0]? = some (some (.ref r)) → σ[1]? = some (some (.ref na)) → σ[2]? = some (some (.ref da)) → σ[3]? = some (some (.int (3 - ((m' + 1 : Nat) : Int)))) → ∀ H1, EvA (tCons (tVar 0) (tCons (tVar 1) (tCons (tVar 2) (tCons (tOp (rI0 fun i j => .int (i + j)) (tVar 3) (tC (.int 1))) tNil)))) σ H1 [.ref r, .ref na, .ref da, .int (3 - (m' : Int))] := fun σ h0 h1 h2 h3 H1 =>
                    ea_cons (ev_var h0) (ea_cons (ev_var h1) (ea_cons (ev_var h2) (ea_cons (ev_is (ev_op (ev_var h3) ev_c rv_I0) (by
                      have : (3 : Int) - ((m' + 1 : Nat) : Int) + 1 = 3 - (m' : Int) := by omega
                      rw [this])) ea_nil)))
                  refine qd_asg t7.row (ed_block t7.row rfl (hNs t7) hn1 hn5 (hDs t7) hd5 (by omega) (by omega) (hargs _ rfl rfl rfl rfl)) fun v7 d7 H8 s8 r8 ⟨b7, hb7, ok7, sz7⟩ tv7 => ?_
                  subst hb7
                  have t8 := t7.same s8 r8
                  refine qd_asg r8 (ed_tup (eds_cons (ed_pickL (Pd := fun d => ∃ s, d = eS s ∧ okS names s) rfl (eds_cons (ed_pickT r8 rfl rfl (hNs t8).at_ hn1 (by omega)) (eds_cons (ed_sum (m := 2) r8 rfl rfl (hNs t8) hn1 hn5 (by decide) (by decide) fun H1 => ev_c) (eds_nil (Pl := fun ds => ds = []) rfl))) ?_) (eds_cons (ed_eq0 ((ed_taken (m := 2) rfl (by decide) (by decide)).imp fun d ⟨n, _, e⟩ => ⟨n, e⟩)) (eds_nil (Pl := fun ds => ds = []) rfl))) ?_) fun v8 d8 H9 s9 r9 hp8 tv8 => ?_
                  · rintro ds ⟨d1, l1, rfl, ⟨x, hx, rfl⟩, d2, l2, rfl, hs, rfl⟩
                    refine ⟨by simp, by simp, fun d hd => ?_⟩
                    simp only [List.mem_cons, List.not_mem_nil, or_false] at hd
                    rcases hd with rfl | rfl
                    · exact drS_ok (m := 0) (drS_nam hx (hN.nm x hx)) (by decide)
                    · exact drS_ok hs (by decide)
                  · rintro ds ⟨d1, l1, rfl, _, d2, l2, rfl, _, rfl⟩
                    show 2 ≤ 1000
                    decide
                  obtain ⟨ds8, rfl, d1, l1, rfl, ⟨s, rfl, hs⟩, d2, l2, rfl, ⟨z, rfl⟩, rfl⟩ := hp8
                  have t9 := t8.same s9 r9
                  have tv79 := s9.td r8 tv7
                  refine qd_asg r9 (ed_ifD (Pd := DrB names done m') (eb_test (ed_eq0 ((ed_taken (m := 2) rfl (by decide) (by decide)).imp fun d ⟨n, _, e⟩ => ⟨n, e⟩))) (ed_block r9 rfl (hNs t9) hn1 hn5 (hDs t9) hd5 (by omega) (by omega) (hargs _ rfl rfl rfl rfl))
                    (ed_unit.imp fun d e => by subst e; exact ⟨[], rfl, fun e _ => by rw [okB]; trivial, by rw [szB]; omega⟩)) fun v9 d9 H10 s10 r10 ⟨b9, hb9, ok9, sz9⟩ tv9 => ?_
                  subst hb9
                  have t10 := t9.same s10 r10
                  have tv710 := s10.td r9 tv79
                  have tv810 := s10.td r9 tv8
                  refine t10.app (fun H1 => ev_var rfl) (by omega) hm2 (ed_pickL rfl (eds_cons (ed_tup (eds_cons (ed_str (P := fun d => d = .str "if") rfl) (eds_cons (ed_var (P := fun d => d = eT s z) r10 rfl tv810 rfl) (eds_cons (ed_var (P := fun d => d = eB b7) r10 rfl tv710 rfl) (eds_cons (ed_var (P := fun d => d = eB b9) r10 rfl tv9 rfl) (eds_nil (Pl := fun ds => ds = []) rfl))))) ?_)
                    (eds_cons (ed_tup (eds_cons (ed_str (P := fun d => d = .str "while") rfl) (eds_cons (ed_var (P := fun d => d = eT s z) r10 rfl tv810 rfl) (eds_cons (ed_var (P := fun d => d = eB b7) r10 rfl tv710 rfl) (eds_nil (Pl := fun ds => ds = []) rfl)))) ?_)
                    (eds_cons (ed_tup (eds_cons (ed_str (P := fun d => d = .str "repeat") rfl) (eds_cons (ed_taken (m := 3) rfl (by decide) (by decide)) (eds_cons (ed_var (P := fun d => d = eB b7) r10 rfl tv710 rfl) (eds_nil (Pl := fun ds => ds = []) rfl)))) ?_) (eds_nil (Pl := fun ds => ds = []) rfl)))) ?_) fun H11 t11 => ⟨_, _, _, _, _, rfl, t11⟩
                  · rintro ds ⟨d1, l1, rfl, _, d2, l2, rfl, _, d3, l3, rfl, _, d4, l4, rfl, _, rfl⟩
                    show 4 ≤ 1000
                    decide
                  · rintro ds ⟨d1, l1, rfl, _, d2, l2, rfl, _, d3, l3, rfl, _, rfl⟩
                    show 3 ≤ 1000
                    decide
                  · rintro ds ⟨d1, l1, rfl, _, d2, l2, rfl, _, d3, l3, rfl, _, rfl⟩
                    show 3 ≤ 1000
                    decide
                  · have hpm : PS (m' + 1) = 1 + 2 * (3 * PS m') := rfl
                    rintro ds ⟨d1, l1, rfl, ⟨_, rfl, _, _, rfl, rfl, _, _, rfl, rfl, _, _, rfl, rfl, _, _, rfl, rfl, rfl⟩, d2, l2, rfl, ⟨_, rfl, _, _, rfl, rfl, _, _, rfl, rfl, _, _, rfl, rfl, rfl⟩, d3, l3, rfl, ⟨_, rfl, _, _, rfl, rfl, _, _, rfl, ⟨n3, hn3, rfl⟩, _, _, rfl, rfl, rfl⟩, rfl⟩
                    refine ⟨by simp, by simp, fun d hd => ?_⟩
                    simp only [List.mem_cons, List.not_mem_nil, or_false] at hd
                    rcases hd with rfl | rfl | rfl
                    · refine ⟨.ifP s z b7 b9, by rw [eP]; rfl, fun e he => ?_, by rw [szP]; omega⟩
                      rw [okP]
                      exact ⟨hs, by omega, ok7 _ (by omega), ok9 _ (by omega)⟩
                    · refine ⟨.whl s z b7, by rw [eP]; rfl, fun e he => ?_, by rw [szP]; omega⟩
                      rw [okP]
                      exact ⟨hs, by omega, ok7 _ (by omega)⟩
                    · refine ⟨.rep n3 b7, by rw [eP]; rfl, fun e he => ?_, by rw [szP]; omega⟩
                      rw [okP]
                      exact ⟨by omega, by omega, ok7 _ (by omega)⟩
                · have t7 := t6.same (.of_ex e7) (t6.row.ex e7)
                  refine s_if (b := decide ((q : Int) = 9)) (et_test (ev_eqI (ev_var rfl) ev_c rfl)) (fun _ H8 e8 => ?_) (fun _ H8 e8 => ?_)
                  · have t8 := t7.same (.of_ex e8) (t7.row.ex e8)
                    refine t8.app (fun H1 => ev_var rfl) (by omega) hm2 ((ed_tup (eds_cons (ed_str (P := fun d => d = .str "stop") rfl) (eds_nil (Pl := fun ds => ds = []) rfl)) ?_).imp ?_) fun H9 t9 => ⟨_, _, _, _, _, rfl, t9⟩
                    · rintro ds ⟨d1, l1, rfl, _, rfl⟩
                      show 1 ≤ 1000
                      decide
                    · rintro d ⟨ds, rfl, d1, l1, rfl, rfl, rfl⟩
                      exact ⟨.stop, by rw [eP], fun e _ => by rw [okP]; trivial, by rw [szP]; exact hps; all_goals (intros; contradiction)⟩
                  · exact ⟨_, _, _, _, _, rfl, (t7.same (.of_ex e8) (t7.row.ex e8)).skip⟩
      · rintro i σ' H' hi ⟨x5, x6, x7, x8, x9, rfl, t⟩
        obtain ⟨b, xs, h1, h2, h3, h4⟩ := t.at_
        refine s_retU (xs := xs) (fun H2 e2 Q' q => ⟨_, rfl, l, xs, rfl, .inl ⟨sq_of (e2 _ _ h1), fun p hp => q p _ hp (Ex.new hp) upd_same⟩⟩) fun p H2 hp e2 h2' => ?_
        refine k _ (eB b) H2 (t.s.trans (.of_ex e2)) (t.row.ex e2) ⟨b, rfl, h3, ?_⟩ ⟨p, xs, rfl, h2', h2.ex e2⟩
        have : i * PS m ≤ 3 * PS m := Nat.mul_le_mul_right _ hi
        omega
theorem c_block (T : Txt K mg w a) : CalG CX0 P w K mg base 11 "_law_block" (spDB K S 3) [] := b_block T 3
end
end RS
end
section
set_option Elab.async false
set_option linter.all false
set_option maxRecDepth 100000
set_option maxHeartbeats 4000000
/-! W22: the parts of a drawn block; a drawn program. -/
namespace RS
open PySem L2 TL Evl
section
variable {K : PySem.W.Frag} {σ : L2.St} {H : Hp} {te ta tb tl' : TE} {g : TG} {tu tz : TS} {D : Ends}
theorem ev_slA {p : Addr} {xs : List V} {lo hi : TO} {l h : Option Int} (hv : Ev te σ H (.ref p)) (hp : H p = some (.tup xs)) (h1 : EvO lo σ H l) (h2 : EvO hi σ H h) : EvW (tSl (rSlA K) te lo hi) σ H (cutV xs l h) := fun H1 e Q k =>
  hv H1 e _ fun H2 e2 => h1 H2 (e.trans e2) _ fun H3 e3 => h2 H3 ((e.trans e2).trans e3) _ fun H4 e4 => by
    have e14 := (e2.trans e3).trans e4
    refine ⟨p, xs, rfl, st_of ((e.trans e14) _ _ hp), fun hw => ?_, fun _ q hq => k q _ (e14.trans (Ex.new hq)) upd_same⟩
    have : cutV xs l h = xs := by
      unfold cutV
      rw [hw.1, hw.2, List.drop_zero, Nat.sub_zero, List.take_length]
    exact k p H4 e14 (by rw [this]; exact (e.trans e14) _ _ hp)
end
theorem cutV_from2 (x y : V) (xs : List V) : cutV (x :: y :: xs) (some 2) none = xs := by
  have e1 : HT.sIx (x :: y :: xs).length 0 (some 2) = min 2 (x :: y :: xs).length := HT.sIx_nat _ _ 2
  have e2 : HT.sIx (x :: y :: xs).length (x :: y :: xs).length none = (x :: y :: xs).length := HT.sIx_none _ _
  unfold cutV
  rw [e1, e2]
  have e3 : min 2 (x :: y :: xs).length = 2 := by rw [List.length_cons, List.length_cons]; omega
  rw [e3]
  show List.take _ xs = xs
  rw [List.length_cons, List.length_cons, show xs.length + 1 + 1 - 2 = xs.length by omega, List.take_length]
theorem cutV_to (xs : List V) (k : Nat) (h : k ≤ xs.length) : cutV xs none (some (k : Nat)) = xs.take k := by
  have e1 : HT.sIx xs.length 0 none = 0 := HT.sIx_none _ _
  have e2 : HT.sIx xs.length xs.length (some (k : Nat)) = min k xs.length := HT.sIx_nat _ _ k
  unfold cutV
  rw [e1, e2, List.drop_zero, Nat.sub_zero]
  congr 1
  omega
section
variable {K : PySem.W.Frag} {σ : L2.St} {H : Hp} {te ta tb tl' : TE} {g : TG} {tu tz : TS} {D : Ends} {t : TT}
theorem ew_if {b : Bool} {xs : List V} (h : EvT t σ H b) (h1 : b = true → EvW ta σ H xs) (h2 : b = false → EvW tb σ H xs) : EvW (tIf t ta tb) σ H xs := fun H1 e Q q => h H1 e _ fun H2 e2 => by
  cases b with
  | true =>
    show ta σ H2 Q
    exact h1 rfl H2 (e.trans e2) Q fun p H3 e3 h3 => q p H3 (e2.trans e3) h3
  | false =>
    show tb σ H2 Q
    exact h2 rfl H2 (e.trans e2) Q fun p H3 e3 h3 => q p H3 (e2.trans e3) h3
/-- a loop over a tuple, new or old; what the heap holds stays -/
theorem sw_for {xs : List V} (h : EvW tl' σ H xs) (Pv : Hp → Nat → L2.St → Hp → Prop) (h0 : ∀ H1, Ex H H1 → Pv H1 0 σ H1) (hk : ∀ H1 i σ' H', Pv H1 i σ' H' → Ex H1 H')
    (hs : ∀ H1 i x σ' H', xs[i]? = some x → Pv H1 i σ' H' → g x σ' H' fun σ2 H2 => tu { D with nx := Pv H1 (i + 1), ct := Pv H1 (i + 1), bk := D.nx } σ2 H2) (hd : ∀ H1 σ' H', Pv H1 xs.length σ' H' → D.nx σ' H') : tFor (iTup K tl') g tu D σ H :=
  h H (Ex.refl H) _ fun p H1 e hp => ⟨p, rfl, ⟨xs, st_of hp⟩, for_tup (Pv H1) (h0 H1 e) (fun i σ' H' _ q => st_of ((hk H1 i σ' H' q) _ _ hp)) (hs H1) (hd H1)⟩
end
theorem sum_take {l : List Nat} {j x : Nat} (h : l[j]? = some x) : (l.take (j + 1)).sum = (l.take j).sum + x := by
  rw [List.take_add_one, h]
  simp
def spLParts (n : Nat) : Sp := fun vs H Q _ => ∃ (v : V) (b : List Pt), vs = [v] ∧ Td H (eB b) v ∧ htB b < n ∧ RetV (.int (szB b : Nat)) H Q
section
variable {S : Addr × List Int} {P : Program} {w : World} {K : PySem.W.Frag} {mg : Str → Option Value} {base : Heap} {a : Ads}
theorem b_lparts (T : Txt K mg w a) : ∀ n, CalG CX0 P w K mg base (n + 1) "_law_parts" (spLParts n) []
  | 0 => by
    obtain ⟨f, fd, D, hm⟩ := T.d__law_parts
    exact ⟨f, fd, ["_law_block_here"], [], FnOk.never fun vs H Q E h => by
      obtain ⟨_, _, _, _, h, _⟩ := h
      omega, hm, D.kp, D.bindsN (fun _ _ _ _ _ _ us hl => match us, hl with | [_], _ => rfl), .nil⟩
  | n + 1 => by
    have C__law_parts : CalG CX0 P w K mg base (n + 1) "_law_parts" (spLParts n) [] := b_lparts T n
    obtain ⟨f, fd, D, hm⟩ := T.d__law_parts
    refine ⟨f, fd, _, _, D.ok sc__law_parts (fun vs H Q E h => ?_) (fun cdv A outer s H vs Q E hr h => ⟨_, PSs.nox ((pss_cons (ps_set (i := 1) sc__law_parts.nd rfl (Or.inl rfl) pe_int)
      (pss_cons (ps_for PassesOwn.never rfl (pi_tup (pv 0)) (pg_name (i := 2) sc__law_parts.nd rfl (Or.inl rfl)) (pss_cons (ps_set (i := 1) sc__law_parts.nd rfl (Or.inl rfl) (pe_op op_add (pv 1) pe_int))
      (pss_one (ps_for PassesOwn.never rfl (pi_tup (pe_ifExp (pt_cmpR op_in_seq (pe_ix ix_tup (pv 2) pe_int (fun _ _ => rfl)) (pe_lst (pa_cons pe_str (pa_cons pe_str (pa_cons pe_str pa_nil)))) (by rfl)) (pe_slice sl_tupA (pv 2) (po_some pe_int) po_none) (pe_tup pa_nil))) (pg_name (i := 3) sc__law_parts.nd rfl (Or.inl rfl)) (pss_one (ps_set (i := 1) sc__law_parts.nd rfl (Or.inl rfl) (pe_op op_add (pv 1) (pe_f0 C__law_parts hr (by omega) (by rfl) (pa_cons (pv 3) pa_nil)))))))))
      (pss_one (ps_ret (pv 1)))))), ?_⟩), hm, D.kp, D.bindsN (fun _ _ _ _ _ _ us hl => match us, hl with | [_], _ => rfl), .nil⟩
    · obtain ⟨v, b, rfl, _⟩ := h
      rfl
    · obtain ⟨v, b, rfl, hv, hh, k⟩ := h
      obtain ⟨ad, xs, rfl, had, hxs⟩ := id hv
      have hlen : xs.length = b.length := by
        rw [TdL.len hxs, ePs_map, List.length_map]
      refine q_asg ev_c fun H1 e1 => ?_
      refine q_forT (xs := xs) (ev_var rfl) (sumT e1 had) (fun i σ' H' => ∃ x y : Option V, σ' = [some (.ref ad), some (.int (szB (b.take i) : Nat)), x, y] ∧ Ex H H') (fun H2 e2 => ⟨none, none, rfl, e1.trans e2⟩) (fun i σ' H' _ ⟨_, _, _, e⟩ => sumT e had) ?_ ?_
      · rintro i x σ' H' hx ⟨x0, y0, rfl, e⟩
        obtain ⟨dt, hdt, htd⟩ := hxs.get hx
        obtain ⟨p, hp, rfl⟩ := ePs_get hdt
        have htp := htB_get hp
        obtain ⟨pa, lit, rs, rfl, hpa, hin, hc⟩ := inner_at (htd.ex e)
        have hT : ∀ H1, Ex H' H1 → SqT K H1 pa (.str lit :: rs) := fun H1 e => sumT e hpa
        have hil : (innerV lit rs).length = (inner p).length := by rw [TdL.len hin, List.length_map]
        refine q_asg (v := .int ((szB (b.take i) : Nat) + 1)) (ev_op (ev_var rfl) ev_c rv_I0) fun H2 e2 => ?_
        refine sw_for (xs := innerV lit rs) (ew_if (b := decide (lit ∈ (["if", "while", "repeat"] : List Str))) (et_test (ev_opL (ev_w0 (ev_var rfl) (hT _ e2)) (el_lst (vs := [V.str "if", V.str "while", V.str "repeat"]) (ea_cons ev_c (ea_cons ev_c (ea_cons ev_c ea_nil))) (by simp)) fun p H3 hp3 e3 => rv_inLs (l := ["if", "while", "repeat"]) (sq_of hp3))) (fun h => ?_) (fun h => ?_))
          (fun H1 j σ' H' => ∃ y, σ' = [some (.ref ad), some (.int ((szB (b.take i) : Nat) + 1 + ((((inner p).map szB).take j).sum : Nat))), some (.ref pa), y] ∧ Ex H1 H' ∧ Ex H2 H1) (fun H3 e3 => ⟨y0, by simp, Ex.refl _, e3⟩) (fun H1 j σ' H' ⟨_, _, e, _⟩ => e) (fun H3 j x σ' H' hx => ?_) (fun H3 σ' H' => ?_)
        · have hl := of_decide_eq_true h
          have er : innerV lit rs = rs.tail := if_pos hl
          obtain ⟨t, rs', rfl⟩ : ∃ t rs', rs = t :: rs' := by
            rcases hc with ⟨_, t, b', c, rfl⟩ | ⟨_, t, b', rfl⟩ | hn
            · exact ⟨_, _, rfl⟩
            · exact ⟨_, _, rfl⟩
            · exact absurd hl hn
          rw [er]
          have := ev_slA (K := K) (te := tVar 2) (σ := ([some (.ref ad), some (.int (szB (b.take i) : Nat)), x0, y0].set 2 (some (.ref pa))).set 1 (some (.int ((szB (b.take i) : Nat) + 1)))) (H := H2) (lo := tPart (tC (.int 2))) (hi := tNoPart) (ev_var rfl) (e2 _ _ hpa) (eo_some ev_c) eo_none
          rw [cutV_from2] at this
          exact this
        · have er : innerV lit rs = [] := if_neg (of_decide_eq_false h)
          rw [er]
          exact ew_of (eu_tup ea_nil (Nat.zero_le _))
        · rintro ⟨y, rfl, e3, e23⟩
          obtain ⟨d2, hd2, ht2⟩ := hin.get hx
          rw [List.getElem?_map] at hd2
          cases q : (inner p)[j]? with
          | none =>
            rw [q] at hd2
            cases hd2
          | some b2 =>
            rw [q] at hd2
            cases hd2
            have hm2 := List.mem_of_getElem? q
            have h1 := ht_inner hm2
            have hst := sum_take (l := (inner p).map szB) (j := j) (x := szB b2) (by rw [List.getElem?_map, q]; rfl)
            refine s_asg (ev_op (ev_var rfl) (ev_call (z := .int (szB b2 : Nat)) (ea_cons (ev_var rfl) ea_nil) fun H4 e4 Q' r E' => ⟨x, b2, rfl, ht2.ex ((e2.trans e23).trans (e3.trans e4)), by omega, r⟩) rv_I0) fun H5 e5 => ⟨some x, ?_, e3.trans e5, e23⟩
            rw [hst]
            have ee : ((szB (b.take i) : Nat) : Int) + 1 + ((((inner p).map szB).take j).sum + szB b2 : Nat) = ((szB (b.take i) : Nat) : Int) + 1 + ((((inner p).map szB).take j).sum : Nat) + (szB b2 : Nat) := by omega
            rw [ee]
            rfl
        · rintro ⟨y, rfl, e3, e23⟩
          refine ⟨some (.ref pa), y, ?_, ((e.trans e2).trans e23).trans e3⟩
          have ee : ((szB (b.take i) : Nat) : Int) + 1 + ((((inner p).map szB).take (innerV lit rs).length).sum : Nat) = ((szB (b.take (i + 1)) : Nat) : Int) := by
            rw [hil, ← List.length_map (f := szB), List.take_length, sz_take hp, sz_inner p]
            omega
          rw [ee]
      · rintro σ' H' ⟨x0, y0, rfl, e⟩
        refine s_ret (v := .int (szB b : Nat)) ?_ fun H4 e4 => k.go (e.trans e4)
        rw [hlen, List.take_length]
        exact ev_var rfl
theorem c_lparts (T : Txt K mg w a) : CalG CX0 P w K mg base 7 "_law_parts" (spLParts 6) [] := b_lparts T 6
theorem okProcs_snoc {names : List Str} {x : Str} {b : List Pt} : ∀ {ps : List (Str × List Pt)} {done : List Str}, okProcs names done ps → isName x = true → x ∉ done ++ ps.map (·.1) → okB names (done ++ ps.map (·.1)) 1 b → okProcs names done (ps ++ [(x, b)])
  | [], done, _, h1, h2, h3 => by
    rw [List.map_nil, List.append_nil] at h2 h3
    rw [List.nil_append, okProcs]
    exact ⟨h1, h2, h3, by rw [okProcs]; trivial⟩
  | q :: ps, done, h, h1, h2, h3 => by
    rw [okProcs] at h
    rw [List.cons_append, okProcs]
    refine ⟨h.1, h.2.1, h.2.2.1, okProcs_snoc h.2.2.2 h1 ?_ ?_⟩
    · rw [List.append_assoc]
      exact h2
    · rw [List.append_assoc]
      exact h3
theorem szProcs_snoc (q : Str × List Pt) : ∀ ps : List (Str × List Pt), szProcs (ps ++ [q]) = szProcs ps + szB q.2
  | [] => by simp [szProcs]
  | p :: ps => by rw [List.cons_append, szProcs, szProcs, szProcs_snoc q ps]; omega
def nmL : List Str := ["a", "b", "cat", "dd"]
def pqL : List Str := ["p", "q"]
def DrG (d : Dt) : Prop := ∃ p, d = eG p ∧ okPg p
def spDG (K : PySem.W.Frag) (S : Addr × List Int) : Sp := fun vs H Q _ => ∃ r : Addr, vs = [.ref r] ∧ RowS K S H r ∧ ∀ v d H', Same [r] H H' → RowS K S H' r → DrG d → Td H' d v → Q v H'
section
variable {σ : L2.St} {H : Hp} {te ta tb : TE} {D : Ends} {tz : TS}
theorem q_asgWW {i j : Nat} {xs ys : List V} (h1 : EvW ta σ H xs) (h2 : EvW tb σ H ys) (k : ∀ p q H1, Ex H H1 → H1 p = some (.tup xs) → H1 q = some (.tup ys) → tz D ((σ.set i (some (.ref p))).set j (some (.ref q))) H1) :
    tSeq (tAsg (tTup (tCons ta (tCons tb tNil))) (gTup K 2 (gCons (gName i) (gCons (gName j) gNil)))) tz D σ H :=
  h1 H (Ex.refl H) _ fun p H1 e1 hp => h2 H1 e1 _ fun q H2 e2 hq => ⟨by show 2 ≤ sizeLine; exact sz_of (by decide), fun t ht => ⟨t, _, rfl, st_of upd_same, rfl, .ref p, _, rfl, .ref q, _, rfl, rfl, k p q _ ((e1.trans e2).trans (Ex.new ht)) (Ex.new ht _ _ (e2 _ _ hp)) (Ex.new ht _ _ hq)⟩⟩
theorem s_parWW {i j : Nat} {xs ys : List V} (h1 : EvW ta σ H xs) (h2 : EvW tb σ H ys) (k : ∀ p q H1, Ex H H1 → H1 p = some (.tup xs) → H1 q = some (.tup ys) → D.nx ((σ.set i (some (.ref p))).set j (some (.ref q))) H1) : tPar i j (tCons ta (tCons tb tNil)) D σ H :=
  h1 H (Ex.refl H) _ fun p H1 e1 hp => h2 H1 e1 _ fun q H2 e2 hq => ⟨.ref p, .ref q, rfl, k p q H2 (e1.trans e2) (e2 _ _ hp) hq⟩
/-- t + (x,), x with its data told -/
theorem s_asgW {i : Nat} {xs : List V} (h : EvW te σ H xs) (k : ∀ p H1, Ex H H1 → H1 p = some (.tup xs) → D.nx (σ.set i (some (.ref p))) H1) : tAsg te (gName i) D σ H := h H (Ex.refl H) _ k
theorem ev_ixS {z : Str} {i : Nat} {c : Nat} (hi : Ev te σ H (.int (i : Nat))) (hz : z.length ≤ 1000) (hc : z.cps.toList[i]? = some c) : Ev (tOp rIxS (tC (.str z)) te) σ H (.str ⟨#[c]⟩) := ev_op ev_c hi (rv_ixS (by omega) (atI_nat hc))
/-- t + ((x, y),) -/
theorem ew_cat2 {p : Addr} {xs : List V} {x y : V} {t1 t2 : TE} (ha : Ev ta σ H (.ref p)) (hp : H p = some (.tup xs)) (h1 : Ev t1 σ H x) (h2 : Ev t2 σ H y) (hl : xs.length ≤ 1000) :
    ∀ H1, Ex H H1 → ∀ Q : VK, (∀ q u H2, Ex H1 H2 → H2 u = some (.tup [x, y]) → H2 q = some (.tup (xs ++ [.ref u])) → Q (.ref q) H2) → tOp (rCatA K) ta (tTup (tCons (tTup (tCons t1 (tCons t2 tNil))) tNil)) σ H1 Q := fun H1 e Q k =>
  ha H1 e _ fun H2 e2 => h1 H2 (e.trans e2) _ fun H3 e3 => h2 H3 ((e.trans e2).trans e3) _ fun H4 e4 => ⟨by show 2 ≤ sizeLine; exact sz_of (by decide), fun u hu => ⟨by show 1 ≤ sizeLine; exact sz_of (by decide), fun q hq => by
    have eu := Ex.new (o := .tup [x, y]) hu
    have eq := Ex.new (o := .tup [V.ref u]) hq
    have e24 := (((e2.trans e3).trans e4).trans eu).trans eq
    refine ⟨p, q, xs, [.ref u], rfl, rfl, st_of ((e.trans e24) _ _ hp), st_of upd_same, sz_of (by rw [List.length_singleton]; omega), fun h => ?_, (fun _ h2 => nomatch h2), fun _ _ r hr => ?_⟩
    · subst h
      exact k q u _ e24 (eq _ _ upd_same) upd_same
    · exact k r u _ (e24.trans (Ex.new hr)) (Ex.new hr _ _ (eq _ _ upd_same)) upd_same⟩⟩
theorem s_parX {i j : Nat} {xs ys : List V} {x y : V} (h1 : ∀ H1, Ex H H1 → ∀ Q : VK, (∀ q u H2, Ex H1 H2 → H2 u = some (.tup [x, y]) → H2 q = some (.tup (xs ++ [.ref u])) → Q (.ref q) H2) → ta σ H1 Q) (h2 : EvW tb σ H ys)
    (k : ∀ p u q H1, Ex H H1 → H1 u = some (.tup [x, y]) → H1 p = some (.tup (xs ++ [.ref u])) → H1 q = some (.tup ys) → D.nx ((σ.set i (some (.ref p))).set j (some (.ref q))) H1) : tPar i j (tCons ta (tCons tb tNil)) D σ H :=
  h1 H (Ex.refl H) _ fun p u H1 e1 hu hp => h2 H1 e1 _ fun q H2 e2 hq => ⟨.ref p, .ref q, rfl, k p u q H2 (e1.trans e2) (e2 _ _ hu) (e2 _ _ hp) hq⟩
end
/-- the state of a turn over the procedures -/
structure Pn (K : PySem.W.Frag) (S : Addr × List Int) (r na pa da : Addr) (names : List Str) (i : Nat) (H0 H : Hp) : Prop where
  s : Same [r] H0 H
  row : RowS K S H r
  nm : Names H na names
  dn : Names H da (pqL.take i)
  at_ : ∃ ps xs, H pa = some (.tup xs) ∧ TdL H (ps.map eQ) xs ∧ ps.map (·.1) = pqL.take i ∧ okProcs names [] ps ∧ szProcs ps ≤ i * 21
theorem Pn.same {r na pa da : Addr} {names : List Str} {i : Nat} {H0 H H' : Hp} (t : Pn K S r na pa da names i H0 H) (s : Same [r] H H') (hr : RowS K S H' r) : Pn K S r na pa da names i H0 H' := by
  obtain ⟨ps, xs, h1, h2, h3⟩ := t.at_
  have k := s.tk1 t.row
  exact ⟨t.s.trans s, hr, ⟨k _ _ t.nm.at_, t.nm.nm⟩, ⟨k _ _ t.dn.at_, t.dn.nm⟩, ps, xs, k _ _ h1, TdL.tk k _ _ h2, h3⟩
theorem nm_ok : ∀ x ∈ nmL, isName x = true := by decide +kernel
theorem pq_ok : ∀ x ∈ pqL, isName x = true := by decide +kernel
theorem nm_nd : nmL.Nodup := by decide +kernel
theorem dtAs_B {names done : List Str} (hn : ∀ x ∈ names, isName x = true) (hd : ∀ x ∈ done, isName x = true) {b : List Pt} {d : Nat} (h : okB names done d b) : dtAs (ePs b) := dtA_B hn hd b d h
theorem okB_tail {names done : List Str} {d : Nat} {p : Pt} {b : List Pt} (h : okB names done d (p :: b)) : okB names done d b := by
  rw [okB] at h
  exact h.2
theorem c_program (T : Txt K mg w a) : CalG CX0 P w K mg base 12 "_law_program" (spDG K S) [] := by
  have C__law_block : CalG CX0 P w K mg base 11 "_law_block" (spDB K S 3) [] := c_block T
  have C__law_taken : CalG CX0 P w K mg base 1 "_law_taken" (spTaken K S) [] := c_taken T
  have C__law_parts : CalG CX0 P w K mg base 7 "_law_parts" (spLParts 6) [] := c_lparts T
  obtain ⟨f, fd, D, hm⟩ := T.d__law_program
  refine ⟨f, fd, _, _, D.ok sc__law_program (fun vs H Q E h => ?_) (fun cdv A outer s H vs Q E hr h => ⟨_, PSs.nox ((pss_cons (ps_set (i := 1) sc__law_program.nd rfl (Or.inl rfl) (pe_slice sl_tupA (pe_tup (pa_cons pe_str (pa_cons pe_str (pa_cons pe_str (pa_cons pe_str pa_nil))))) po_none (po_some (pe_op op_add pe_int (pe_f0 C__law_taken hr (by omega) (by rfl) (pa_cons (pv 0) (pa_cons pe_int pa_nil)))))))
      (pss_cons (ps_asg (pe_tup (pa_cons (pe_tup pa_nil) (pa_cons (pe_tup pa_nil) pa_nil))) (pg_tup (by rfl) (pgs_cons (pg_name (i := 2) sc__law_program.nd rfl (Or.inl rfl)) (pgs_cons (pg_name (i := 3) sc__law_program.nd rfl (Or.inl rfl)) pgs_nil))))
      (pss_cons (ps_for PassesOwn.never rfl (pi_range1 (by rfl) T.b_range (pa_cons (pe_f0 C__law_taken hr (by omega) (by rfl) (pa_cons (pv 0) (pa_cons pe_int pa_nil))) pa_nil)) (pg_name (i := 4) sc__law_program.nd rfl (Or.inl rfl)) (pss_cons (ps_set (i := 5) sc__law_program.nd rfl (Or.inl rfl) (pe_f0 C__law_block hr (by omega) (by rfl) (pa_cons (pv 0) (pa_cons (pv 1) (pa_cons (pv 3) (pa_cons pe_int pa_nil))))))
      (pss_one (ps_par (i := 2) (j := 3) (by rfl) sc__law_program.nd rfl rfl (by decide) rfl rfl (pa_cons (pe_op op_catA (pv 2) (pe_tup (pa_cons (pe_tup (pa_cons (pe_ix ix_str pe_str (pv 4) (fun _ _ => rfl)) (pa_cons (pv 5) pa_nil))) pa_nil))) (pa_cons (pe_op op_catA (pv 3) (pe_tup (pa_cons (pe_ix ix_str pe_str (pv 4) (fun _ _ => rfl)) pa_nil))) pa_nil)) (by rfl)))))
      (pss_cons (ps_set (i := 5) sc__law_program.nd rfl (Or.inl rfl) (pe_f0 C__law_block hr (by omega) (by rfl) (pa_cons (pv 0) (pa_cons (pv 1) (pa_cons (pv 3) (pa_cons pe_int pa_nil))))))
      (pss_cons (ps_while PassesOwn.never (pt_cmpR op_gt (pe_f0 C__law_parts hr (by omega) (by rfl) (pa_cons (pv 5) pa_nil)) pe_int (nomark _)) (pss_one (ps_set (i := 5) sc__law_program.nd rfl (Or.inl rfl) (pe_slice sl_tupA (pv 5) (po_some pe_int) po_none))))
      (pss_one (ps_ret (pe_tup (pa_cons (pv 1) (pa_cons (pv 2) (pa_cons (pv 5) pa_nil)))))))))))), ?_⟩), hm, D.kp, D.bindsN (fun _ _ _ _ _ _ us hl => match us, hl with | [_], _ => rfl), .nil⟩
  · obtain ⟨r, rfl, _⟩ := h
    rfl
  · obtain ⟨r, rfl, hR, k⟩ := h
    -- the names
    have hnm : ∀ (tz : TS) (D : Ends), (∀ na names H1, Same [r] H H1 → RowS K S H1 r → H1 na = some (.tup (names.map V.str)) → (∃ n, 1 ≤ n ∧ n ≤ 4 ∧ names = nmL.take n) → tz D ([some (.ref r), some (.ref na), none, none, none, none] : L2.St) H1) →
        tSeq (tAsg (tSl (rSlA K) (tTup (tCons (tC (.str "a")) (tCons (tC (.str "b")) (tCons (tC (.str "cat")) (tCons (tC (.str "dd")) tNil))))) tNoPart (tPart (tOp (rI0 fun i j => .int (i + j)) (tC (.int 1)) (tCall (spTaken K S) [] E0 (tCons (tVar 0) (tCons (tC (.int 4)) tNil)))))) (gName 1)) tz D ([some (.ref r), none, none, none, none, none] : L2.St) H := fun tz D kk => by
      refine ⟨by show 4 ≤ sizeLine; exact sz_of (by decide), fun p hp => ?_⟩
      have ep := Ex.new (o := .tup [.str "a", .str "b", .str "cat", .str "dd"]) hp
      have hpr : p ≠ r := by
        obtain ⟨ys, hy⟩ := hR.at_
        exact fresh_ne hy hp
      have hadd : EvD K S r (tOp (rI0 fun i j => .int (i + j)) (tC (.int 1)) (tCall (spTaken K S) [] E0 (tCons (tVar 0) (tCons (tC (.int 4)) tNil)))) [some (.ref r), none, none, none, none, none] (upd H p (.tup [.str "a", .str "b", .str "cat", .str "dd"])) (fun d => ∃ n : Nat, 1 ≤ n ∧ n ≤ 4 ∧ d = .int n) := fun H1 s1 r1 Q q =>
        ed_taken (K := K) (S := S) (r := r) (H := upd H p (.tup [.str "a", .str "b", .str "cat", .str "dd"])) (σ := [some (.ref r), none, none, none, none, none]) (m := 4) rfl (by decide) (by decide) H1 s1 r1 _ fun v d H2 s2 r2 ⟨n, hn, e⟩ t => by
          subst e
          cases (show v = .int n from t)
          refine ⟨1, n, rfl, rfl, ?_⟩
          have e1 : (1 : Int) + (n : Int) = ((n + 1 : Nat) : Int) := by omega
          show Q (.int ((1 : Int) + (n : Int))) H2
          rw [e1]
          exact q _ (.int ((n + 1 : Nat) : Int)) H2 s2 r2 ⟨n + 1, by omega, by omega, rfl⟩ rfl
      refine hadd _ Same.refl (hR.ex ep) _ fun v d H1 s1 r1 ⟨n, hn1, hn4, e⟩ t => ?_
      subst e
      cases (show v = .int n from t)
      have hp1 : H1 p = some (.tup [.str "a", .str "b", .str "cat", .str "dd"]) := s1 p _ (by simpa using hpr) upd_same
      have hs0 : Same [r] H H1 := Same.trans (.of_ex ep) s1
      have hcut : cutV [.str "a", .str "b", .str "cat", .str "dd"] none (some (n : Nat)) = (nmL.take n).map V.str := by
        rw [cutV_to _ _ hn4, List.map_take]
        rfl
      refine ⟨(n : Nat), rfl, p, _, rfl, st_of hp1, fun hw => ?_, fun _ q hq => ?_⟩
      · have hn : n = 4 := by
          have h2 : HT.sIx 4 4 (some (n : Nat)) = min n 4 := HT.sIx_nat _ _ n
          have h3 := hw.2
          rw [show ([V.str "a", V.str "b", V.str "cat", V.str "dd"] : List V).length = 4 from rfl, h2] at h3
          omega
        refine kk p (nmL.take n) H1 hs0 r1 ?_ ⟨n, hn1, hn4, rfl⟩
        rw [hp1, hn]
        rfl
      · have e2 := Ex.new (o := .tup (cutV [.str "a", .str "b", .str "cat", .str "dd"] none (some (n : Nat)))) hq
        refine kk q (nmL.take n) _ (hs0.trans (.of_ex e2)) (r1.ex e2) ?_ ⟨n, hn1, hn4, rfl⟩
        rw [upd_same, hcut]
    refine hnm _ _ fun na names H1 s1 r1 hna hnames => ?_
    obtain ⟨n, hn1, hn4, rfl⟩ := hnames
    have hlen : (nmL.take n).length = n := by
      rw [List.length_take]
      show min n 4 = n
      omega
    have hN1 : Names H1 na (nmL.take n) := ⟨hna, fun x hx => nm_ok x (List.mem_of_mem_take hx)⟩
    refine q_asgWW (ew_of (eu_tup ea_nil (Nat.zero_le _))) (ew_of (eu_tup ea_nil (Nat.zero_le _))) fun pa0 da0 H2 e2 hpa0 hda0 => ?_
    have t2 : Pn K S r na pa0 da0 (nmL.take n) 0 H H2 := ⟨s1.trans (.of_ex e2), r1.ex e2, ⟨e2 _ _ hna, hN1.nm⟩, ⟨hda0, fun x hx => by cases hx⟩, [], [], hpa0, rfl, rfl, by rw [okProcs]; trivial, by rw [szProcs]; omega⟩
    refine q_forD (N := 2) t2.row ((ed_taken (m := 3) rfl (by decide) (by decide)).imp fun d ⟨q, hq, e⟩ => ⟨q, by omega, e⟩) (by decide) (fun i σ' H' => ∃ (pa da : Addr) (x4 x5 : Option V), σ' = [some (.ref r), some (.ref na), some (.ref pa), some (.ref da), x4, x5] ∧ Pn K S r na pa da (nmL.take n) i H H')
      (fun H3 s3 r3 => ⟨pa0, da0, none, none, rfl, t2.same s3 r3⟩) ?_ ?_
    · rintro i σ' H' hi ⟨pa, da, x4, x5, rfl, t⟩
      have hdl : (pqL.take i).length = i := by
        rw [List.length_take]
        show min i 2 = i
        omega
      refine qd_asg t.row (ed_block (m := 1) t.row rfl t.nm (by omega) (by omega) t.dn (by omega) (by decide) (by decide) fun H1 => ea_cons (ev_var rfl) (ea_cons (ev_var rfl) (ea_cons (ev_var rfl) (ea_cons ev_c ea_nil)))) fun v d H3 s3 r3 ⟨b, hb, ok, sz⟩ tv => ?_
      subst hb
      have t3 := t.same s3 r3
      obtain ⟨ps, xs, h1, h2, h3, h4, h5⟩ := t3.at_
      have hps : ps.length = i := by
        have := congrArg List.length h3
        rw [List.length_map, hdl] at this
        exact this
      have hxl : xs.length = i := by rw [h2.len, List.length_map, hps]
      obtain ⟨x, hx, hc⟩ : ∃ x, pqL[i]? = some x ∧ ∃ c, ("pq" : Str).cps.toList[i]? = some c ∧ x = (⟨#[c]⟩ : Str) := by
        have : i = 0 ∨ i = 1 := by omega
        rcases this with rfl | rfl
        · exact ⟨"p", rfl, 112, by decide +kernel, by decide +kernel⟩
        · exact ⟨"q", rfl, 113, by decide +kernel, by decide +kernel⟩
      obtain ⟨c, hc1, hc2⟩ := hc
      have hix : ∀ (σ : L2.St), σ[4]? = some (some (.int (i : Nat))) → Ev (tOp rIxS (tC (.str "pq")) (tVar 4)) σ H3 (.str x) := fun σ hσ => by
        rw [hc2]
        exact ev_ixS (ev_var hσ) (by decide +kernel) hc1
      have htk : pqL.take (i + 1) = pqL.take i ++ [x] := by
        rw [List.take_add_one, hx]
        rfl
      have hxn : x ∉ pqL.take i := by
        have : i = 0 ∨ i = 1 := by omega
        rcases this with rfl | rfl
        · exact List.not_mem_nil
        · cases (Option.some.inj hx : ("q" : Str) = x)
          decide +kernel
      have hxi : isName x = true := pq_ok x (List.mem_of_getElem? hx)
      refine s_parX (xs := xs) (ys := (pqL.take i).map V.str ++ [.str x]) (ew_cat2 (ev_var rfl) h1 (hix _ rfl) (ev_var rfl) (by omega)) (ew_cat (ev_var rfl) t3.dn.at_ (eu_tup (ea_cons (hix _ rfl) ea_nil) (by simp)) (by rw [List.length_map, hdl]; show i + 1 ≤ 100000; omega)) fun p u q H4 e4 hu hp hq => ?_
      refine ⟨p, q, _, _, rfl, t3.s.trans (.of_ex e4), t3.row.ex e4, t3.nm.ex e4, ⟨by rw [hq, htk, List.map_append]; rfl, fun y hy => pq_ok y (List.mem_of_mem_take hy)⟩, ps ++ [(x, b)], _, hp, ?_, by rw [List.map_append, h3, htk]; rfl, ?_, ?_⟩
      · rw [List.map_append]
        exact TdL.append (h2.ex e4) (TdL.one ⟨u, _, rfl, hu, _, _, rfl, rfl, _, _, rfl, tv.ex e4, rfl⟩)
      · refine okProcs_snoc h4 hxi (by rw [List.nil_append, h3]; exact hxn) ?_
        rw [List.nil_append, h3]
        exact ok 1 (by decide)
      · rw [szProcs_snoc, Nat.succ_mul]
        have hp1 : PS 1 = 7 := rfl
        rw [hp1] at sz
        show szProcs ps + szB b ≤ _
        omega
    · rintro i σ' H' hi ⟨pa, da, x4, x5, rfl, t⟩
      have hdl : (pqL.take i).length = i := by
        rw [List.length_take]
        show min i 2 = i
        omega
      refine qd_asg t.row (ed_block (m := 2) t.row rfl t.nm (by omega) (by omega) t.dn (by omega) (by decide) (by decide) fun H1 => ea_cons (ev_var rfl) (ea_cons (ev_var rfl) (ea_cons (ev_var rfl) (ea_cons ev_c ea_nil)))) fun v d H3 s3 r3 ⟨b0, hb0, ok, sz⟩ tv => ?_
      subst hb0
      have t3 := t.same s3 r3
      have okb0 : okB (nmL.take n) (pqL.take i) 1 b0 := ok 1 (by decide)
      refine q_while (fun m σ' H' => ∃ (b : List Pt) (v : V), σ' = [some (.ref r), some (.ref na), some (.ref pa), some (.ref da), x4, some v] ∧ Ex H3 H' ∧ Td H' (eB b) v ∧ okB (nmL.take n) (pqL.take i) 1 b ∧ m = b.length) b0.length ⟨b0, v, rfl, Ex.refl _, tv, okb0, rfl⟩ ?_
      rintro m σ' H4 ⟨b, v, rfl, e4, tv4, okb, rfl⟩
      have hht := ht_okB b 1 okb (by decide)
      refine ⟨decide (18 < szB b), et_is (et_test (ev_op (ev_call (z := .int (szB b : Nat)) (ea_cons (ev_var rfl) ea_nil) fun H5 e5 Q' q E' => ⟨v, b, rfl, tv4.ex e5, by omega, q⟩) ev_c rv_I0)) (dec_lt 18 _), fun h H5 e5 => ?_, fun h H5 e5 => ?_⟩
      · have h := of_decide_eq_true h
        obtain ⟨p, b', rfl⟩ : ∃ p b', b = p :: b' := by
          cases b with
          | nil =>
            rw [szB] at h
            omega
          | cons p b' => exact ⟨p, b', rfl⟩
        obtain ⟨ad, xs, rfl, had, x, xs', rfl, hx, hxs⟩ := tv4
        refine ⟨fun σ2 H2 => ∃ m', m' < (p :: b').length ∧ ∃ (b : List Pt) (v : V), σ2 = [some (.ref r), some (.ref na), some (.ref pa), some (.ref da), x4, some v] ∧ Ex H3 H2 ∧ Td H2 (eB b) v ∧ okB (nmL.take n) (pqL.take i) 1 b ∧ m' = b.length, fun σ2 H6 hh => hh, ?_⟩
        refine s_asgW (ev_slA (ev_var rfl) (e5 _ _ had) (eo_some ev_c) eo_none) fun q H6 e6 hq => ?_
        rw [cutV_tail] at hq
        exact ⟨b'.length, by rw [List.length_cons]; omega, b', .ref q, rfl, (e4.trans e5).trans e6, ⟨q, xs', rfl, hq, hxs.ex (e5.trans e6)⟩, okB_tail okb, rfl⟩
      · have h := of_decide_eq_false h
        obtain ⟨ps, xs, h1, h2, h3', h4', h5'⟩ := t3.at_
        have e45 := e4.trans e5
        refine s_retU (eu_tup (ea_cons (ev_var rfl) (ea_cons (ev_var rfl) (ea_cons (ev_var rfl) ea_nil))) (by simp)) fun q H6 hq e6 h6 => ?_
        have e46 := e45.trans e6
        have hps : ps.length = i := by
          have := congrArg List.length h3'
          rw [List.length_map, hdl] at this
          exact this
        refine k _ (eG ⟨nmL.take n, ps, b⟩) H6 (t3.s.trans (.of_ex e46)) (t3.row.ex e46) ⟨⟨nmL.take n, ps, b⟩, rfl, ⟨by show 1 ≤ (nmL.take n).length; omega, by show (nmL.take n).length ≤ 5; omega, t3.nm.nm, List.Nodup.sublist (List.take_sublist _ _) nm_nd, by show ps.length ≤ 4; omega, h4', by show okB _ (ps.map (·.1)) 1 b; rw [h3']; exact okb, by show szProcs ps + szB b ≤ 60; omega⟩⟩ ?_
        exact ⟨q, _, rfl, h6, _, _, rfl, ⟨na, _, rfl, e46 _ _ t3.nm.at_, TdL.ofStrs _⟩, _, _, rfl, ⟨pa, xs, rfl, e46 _ _ h1, h2.ex e46⟩, _, _, rfl, tv4.ex (e5.trans e6), rfl⟩
end
end RS
end
section
set_option Elab.async false
set_option linter.all false
set_option maxRecDepth 100000
set_option maxHeartbeats 4000000
/-! W23: the law's own printer; comparison. -/
namespace RS
open PySem L2 TL Evl
theorem ix_tupK {X : Cx} {K : PySem.W.Frag} (hK : X.K = K) : IxR X (rIxT K) := by
  subst hK
  exact ix_tup
/-! ### joined words -/
theorem joinL_app (S : List Nat) : ∀ (a b : List (List Nat)), a ≠ [] → b ≠ [] → joinL S (a ++ b) = joinL S a ++ (S ++ joinL S b)
  | [], b, h, _ => absurd rfl h
  | [x], b, _, hb => by
    cases b with
    | nil => exact absurd rfl hb
    | cons y r => rfl
  | x :: y :: r, b, _, hb => by
    show x ++ (S ++ joinL S ((y :: r) ++ b)) = (x ++ (S ++ joinL S (y :: r))) ++ (S ++ joinL S b)
    rw [joinL_app S (y :: r) b (by simp) hb]
    simp
theorem jn_app {a b : List Str} (ha : a ≠ []) (hb : b ≠ []) : jn (a ++ b) = jn a ++ (" " : Str) ++ jn b := by
  refine ext_tl ?_
  unfold jn
  rw [tl_append, tl_append, tl_join, tl_join, tl_join, List.map_append, joinL_app _ _ _ (by simpa using ha) (by simpa using hb), List.append_assoc]
theorem jn_one (x : Str) : jn [x] = x := rfl
theorem str_app (a b c : Str) : a ++ b ++ c = a ++ (b ++ c) := ext_tl (by rw [tl_append, tl_append, tl_append, tl_append, List.append_assoc])
theorem sumW_ne (s : Sm) (inn : Bool) : sumW s inn ≠ [] := by
  have h := sumW_len s
  intro z
  cases s with
  | num i => cases inn <;> cases z
  | nam x => cases inn <;> cases z
  | bin p a b =>
    cases inn with
    | false =>
      have h2 : (sumW a false ++ [sg p] ++ sumW b true) = [] := z
      simp at h2
    | true =>
      have h2 : ((["("] : List Str) ++ (sumW a false ++ [sg p] ++ sumW b true) ++ ([")"] : List Str)) = [] := z
      simp at h2
def spS (p : Bool) : Str := if p = true then " + " else " - "
theorem jn_bin (p : Bool) (a b : Sm) : jn (sumW (.bin p a b) false) = jn (sumW a false) ++ spS p ++ jn (sumW b true) := by
  show jn (sumW a false ++ [sg p] ++ sumW b true) = _
  rw [jn_app (by simp) (sumW_ne _ _), jn_app (sumW_ne _ _) (by simp), jn_one]
  have e : spS p = (" " : Str) ++ sg p ++ (" " : Str) := by cases p <;> decide +kernel
  rw [e]
  simp only [str_app]
theorem jn_par (p : Bool) (a b : Sm) : jn (sumW (.bin p a b) true) = ("( " : Str) ++ jn (sumW (.bin p a b) false) ++ (" )" : Str) := by
  show jn ((["("] : List Str) ++ sumW (.bin p a b) false ++ ([")"] : List Str)) = _
  rw [jn_app (by simp) (by simp), jn_app (by simp) (sumW_ne _ _), jn_one, jn_one]
  have e1 : ("( " : Str) = ("(" : Str) ++ (" " : Str) := by decide +kernel
  have e2 : (" )" : Str) = (" " : Str) ++ (")" : Str) := by decide +kernel
  rw [e1, e2]
  simp only [str_app]
theorem sl_sum {names : List Str} (hn : ∀ x ∈ names, isName x = true) {s : Sm} {inn : Bool} (h : okSm names s) (ht : terms s ≤ 24) : (jn (sumW s inn)).length ≤ 927 := by
  refine jn_le ⟨?_, sw_sum hn s inn h⟩
  obtain ⟨x1, x2, x3⟩ := sumW_len s
  cases inn <;> omega
theorem len_app (a b : Str) : (a ++ b).length = a.length + b.length := by rw [len_tl, tl_append, List.length_append, ← len_tl, ← len_tl]
def rAddT : R2 := fun x y H Q => ∃ i j, x = .str i ∧ y = .str j ∧ i.length + j.length ≤ sizeLine ∧ Q (.str (i ++ j)) H
section
variable {K : PySem.W.Frag} {σ : L2.St} {H : Hp} {te ta tb : TE}
theorem ev_addS {x y : Str} (ha : Ev ta σ H (.str x)) (hb : Ev tb σ H (.str y)) (hl : x.length + y.length ≤ 1000000) : Ev (tOp rAddT ta tb) σ H (.str (x ++ y)) := ev_op ha hb fun H1 e Q q => ⟨x, y, rfl, rfl, by rw [sizeLine_eq]; omega, q H1 (Ex.refl H1)⟩
def rStr2 : List V → Hp → VK → Prop := fun xs H Q => (∃ i, xs = [.int i] ∧ i.natAbs.log2 < 1920 ∧ Q (.str (toString i)) H) ∨ ∃ a, xs = [.str a] ∧ Q (.str a) H
theorem ev_str2I {i : Int} (h : Ev te σ H (.int i)) (hi : i.natAbs ≤ 100000) : Ev (tCB rStr2 (tCons te tNil)) σ H (.str (numS i)) := ev_cb (ea_cons h ea_nil) fun H1 e Q q => .inl ⟨i, rfl, log_ok hi, by
  have := str_int i
  show Q (.str (Str.ofString (toString i))) H1
  rw [this]
  exact q H1 (Ex.refl H1)⟩
theorem ev_str2S {x : Str} (h : Ev te σ H (.str x)) : Ev (tCB rStr2 (tCons te tNil)) σ H (.str x) := ev_cb (ea_cons h ea_nil) fun H1 e Q q => .inr ⟨x, rfl, q H1 (Ex.refl H1)⟩
end
def spSumText (n : Nat) : Sp := fun vs H Q _ => ∃ (v : V) (names : List Str) (s : Sm) (inn : Bool), vs = [v, .bl inn] ∧ Td H (eS s) v ∧ (∀ x ∈ names, isName x = true) ∧ okSm names s ∧ deep s < n ∧ terms s ≤ 24 ∧ RetV (.str (jn (sumW s inn))) H Q
def spLLines (n : Nat) : Sp := fun vs H Q _ => ∃ (v : V) (b : List Pt) (names done : List Str) (d : Nat), vs = [v] ∧ Td H (eB b) v ∧ okB names done d b ∧ (∀ x ∈ names, isName x = true) ∧ (∀ x ∈ done, isName x = true) ∧ htB b < n ∧ szB b ≤ 1000 ∧ RetL (((linesB b).map jn).map V.str) H Q
section
variable {P : Program} {w : World} {K : PySem.W.Frag} {mg : Str → Option Value} {base : Heap} {a : Ads}
theorem b_sumText (T : Txt K mg w a) : ∀ n, CalG CX0 P w K mg base (n + 1) "_law_sum_text" (spSumText n) []
  | 0 => by
    obtain ⟨f, fd, D, hm⟩ := T.d__law_sum_text
    exact ⟨f, fd, ["_law_value", "_law_is_second"], [], FnOk.never fun vs H Q E h => by
      obtain ⟨_, _, _, _, _, _, _, _, h, _⟩ := h
      omega, hm, D.kp, D.bindsN (fun _ _ _ _ _ _ us hl => match us, hl with | [_, _], _ => rfl), .nil⟩
  | n + 1 => by
    have C__law_sum_text : CalG CX0 P w K mg base (n + 1) "_law_sum_text" (spSumText n) [] := b_sumText T n
    obtain ⟨f, fd, D, hm⟩ := T.d__law_sum_text
    refine ⟨f, fd, _, _, D.ok sc__law_sum_text (fun vs H Q E h => ?_) (fun cdv A outer s H vs Q E hr h => ⟨_, PSs.nox ((pss_cons (ps_if (pt_val (pe_callB call_isi (by rfl) T.b_isinstance (by decide +kernel) (pa_cons (pv 0) (pa_cons (pe_bltn (by rfl) T.b_tuple (by decide +kernel) (show RelV (.ty "tuple") (.type "tuple") from rfl)) pa_nil)))) (pss_cons (ps_set (i := 2) sc__law_sum_text.nd rfl (Or.inl rfl) (pe_op op_add_str (pe_op op_add_str (pe_f0 C__law_sum_text hr (by omega) (by rfl) (pa_cons (pe_ix ix_tup (pv 0) pe_int (fun _ _ => rfl)) (pa_cons pe_bl pa_nil))) (pe_ifExp (pt_cmpR op_eq (pe_ix ix_tup (pv 0) pe_int (fun _ _ => rfl)) pe_str (nomark _)) pe_str pe_str)) (pe_f0 C__law_sum_text hr (by omega) (by rfl) (pa_cons (pe_ix ix_tup (pv 0) pe_int (fun _ _ => rfl)) (pa_cons pe_bl pa_nil)))))
      (pss_one (ps_ret (pe_ifExp (pt_val (pv 1)) (pe_op op_add_str (pe_op op_add_str pe_str (pv 2)) pe_str) (pv 2))))) pss_nil)
      (pss_one (ps_ret (pe_callTy (CallR.or call_str_int SkE.call_str_str) (by rfl) T.b_str (by decide +kernel) (pa_cons (pv 0) pa_nil)))))), ?_⟩), hm, D.kp, D.bindsN (fun _ _ _ _ _ _ us hl => match us, hl with | [_, _], _ => rfl), .nil⟩
    · obtain ⟨v, names, s, inn, rfl, _⟩ := h
      rfl
    · obtain ⟨v, names, s, inn, rfl, hv, hn, hs, hd, ht, k⟩ := h
      cases s with
      | num i =>
        cases (show v = .int i from hv)
        have h1 := hs.1
        have h2 := hs.2
        refine q_no (et_B (ev_isi (ev_var rfl) ev_c (fun _ _ => ty_int) k_int_tuple)) fun H1 e1 => ?_
        exact s_ret (ev_str2I (i := i) (ev_var rfl) (by omega)) fun H2 e2 => by
          have := k.go (e1.trans e2)
          cases inn <;> exact this
      | nam x =>
        cases (show v = .str x from hv)
        refine q_no (et_B (ev_isi (ev_var rfl) ev_c (fun _ _ => ty_str) k_str_tuple)) fun H1 e1 => ?_
        exact s_ret (ev_str2S (ev_var rfl)) fun H2 e2 => by
          have := k.go (e1.trans e2)
          cases inn <;> exact this
      | bin p x y =>
        obtain ⟨ad, xs, rfl, had, v1, r1, rfl, e1, v2, r2, rfl, h2, v3, r3, rfl, h3, e3⟩ := id hv
        cases (show v1 = .str (sgn p) from e1)
        cases (show r3 = [] from e3)
        have hT : ∀ H1, Ex H H1 → SqT K H1 ad [.str (sgn p), v2, v3] := fun H1 e => sumT e had
        have hd5 : 1 + max (deep x) (deep y) < n + 1 := hd
        have ht5 : terms x + terms y ≤ 24 := ht
        have lx := sl_sum hn (inn := false) hs.1 (by omega)
        have ly := sl_sum hn (inn := true) hs.2 (by omega)
        have lw := sl_sum hn (inn := false) hs ht
        have lsp : (spS p).length = 3 := by cases p <;> decide +kernel
        refine q_yes (et_B (ev_isi (ev_var rfl) ev_c (fun _ e => ty_tup (e _ _ had)) k_tuple_tuple)) fun H1 e1 => ?_
        refine q_asg (v := .str (jn (sumW (.bin p x y) false))) (ev_is (ev_addS (ev_addS (ev_call (z := .str (jn (sumW x false))) (ea_cons (ev_w1 (ev_var rfl) (hT _ e1)) (ea_cons ev_c ea_nil)) fun H4 e4 Q' q E' => ⟨v2, names, x, false, rfl, h2.ex (e1.trans e4), hn, hs.1, by omega, by omega, q⟩)
          (ev_if (v := .str (spS p)) (b := p) (et_w (ev_w0 (ev_var rfl) (hT _ e1)) (by cases p <;> decide +kernel)) (fun h => by subst h; exact ev_c) (fun h => by subst h; exact ev_c)) (by omega))
          (ev_call (z := .str (jn (sumW y true))) (ea_cons (ev_w2 (ev_var rfl) (hT _ e1)) (ea_cons ev_c ea_nil)) fun H4 e4 Q' q E' => ⟨v3, names, y, true, rfl, h3.ex (e1.trans e4), hn, hs.2, by omega, by omega, q⟩) (by rw [len_app]; omega)) (by rw [jn_bin])) fun H2 e2 => ?_
        refine s_ret (v := .str (jn (sumW (.bin p x y) inn))) (ev_if (b := inn) (et_test (ev_var rfl)) (fun h => ?_) (fun h => ?_)) fun H3 e3 => k.go ((e1.trans e2).trans e3)
        · subst h
          have l1 : ("( " : Str).length = 2 := by decide +kernel
          have l2 : (" )" : Str).length = 2 := by decide +kernel
          exact ev_is (ev_addS (ev_addS ev_c (ev_var rfl) (by omega)) ev_c (by rw [len_app]; omega)) (by rw [jn_par])
        · subst h
          exact ev_var rfl
theorem c_sumText (T : Txt K mg w a) : CalG CX0 P w K mg base 8 "_law_sum_text" (spSumText 7) [] := b_sumText T 7
theorem jn_line {x : Str} {ws : List Str} (h : ws ≠ []) : jn ((([x] : List Str)) ++ ws) = x ++ (" " : Str) ++ jn ws := by
  rw [jn_app (by simp) h, jn_one]
theorem jn_test (s : Sm) (z : Bool) : jn (tsW s z) = jn (sumW s false) ++ (if z = true then (" = 0" : Str) else (" != 0" : Str)) := by
  show jn (sumW s false ++ ([eqS z, "0"] : List Str)) = _
  rw [jn_app (sumW_ne _ _) (by simp), str_app]
  congr 1
  cases z <;> decide +kernel
theorem tsW_ne (s : Sm) (z : Bool) : tsW s z ≠ [] := by
  intro h
  have h2 : sumW s false ++ ([eqS z, "0"] : List Str) = [] := h
  simp at h2
theorem map_jn (a : List (List Str)) (b : List (List Str)) : (((a ++ b).map jn).map V.str) = ((a.map jn).map V.str) ++ ((b.map jn).map V.str) := by
  rw [List.map_append, List.map_append]
theorem b_llines (T : Txt K mg w a) : ∀ n, CalG CX0 P w K mg base (n + 10) "_law_lines" (spLLines n) []
  | 0 => by
    obtain ⟨f, fd, D, hm⟩ := T.d__law_lines
    exact ⟨f, fd, ["_law_block_here"], [], FnOk.never fun vs H Q E h => by
      obtain ⟨_, _, _, _, _, _, _, _, _, _, h, _⟩ := h
      omega, hm, D.kp, D.bindsN (fun _ _ _ _ _ _ us hl => match us, hl with | [_], _ => rfl), .nil⟩
  | n + 1 => by
    have C__law_lines : CalG CX0 P w K mg base (n + 10) "_law_lines" (spLLines n) [] := b_llines T n
    have C__law_sum_text : CalG CX0 P w K mg base 8 "_law_sum_text" (spSumText 7) [] := c_sumText T
    obtain ⟨f, fd, D, hm⟩ := T.d__law_lines
    refine ⟨f, fd, _, _, D.ok sc__law_lines (fun vs H Q E h => ?_) (fun cdv A outer s H vs Q E hr h => ⟨_, PSs.nox ((pss_cons (ps_set (i := 1) sc__law_lines.nd rfl (Or.inl rfl) (pe_lst pa_nil))
      (pss_cons (ps_for PassesOwn.never rfl (pi_tup (pv 0)) (pg_name (i := 2) sc__law_lines.nd rfl (Or.inl rfl)) (pss_one (ps_if (pt_cmpR op_in_seq (pe_ix ix_tup (pv 2) pe_int (fun _ _ => rfl)) (pe_lst (pa_cons pe_str (pa_cons pe_str pa_nil))) (by rfl)) (pss_cons (ps_set (i := 1) sc__law_lines.nd rfl (Or.inl rfl) (pe_op op_cat (pe_op op_cat (pv 1) (pe_lst (pa_cons (pe_op op_add_str (pe_op op_add_str (pe_op op_add_str (pe_ix ix_tup (pv 2) pe_int (fun _ _ => rfl)) pe_str) (pe_f0 C__law_sum_text hr (by omega) (by rfl) (pa_cons (pe_ix ix_tup (pe_ix ix_tup (pv 2) pe_int (fun _ _ => rfl)) pe_int (fun _ _ => rfl)) (pa_cons pe_bl pa_nil)))) (pe_ifExp (pt_val (pe_ix ix_tup (pe_ix ix_tup (pv 2) pe_int (fun _ _ => rfl)) pe_int (fun _ _ => rfl))) pe_str pe_str)) pa_nil))) (pe_f0 C__law_lines hr (by omega) (by rfl) (pa_cons (pe_ix ix_tup (pv 2) pe_int (fun _ _ => rfl)) pa_nil))))
      (pss_cons (ps_set (i := 1) sc__law_lines.nd rfl (Or.inl rfl) (pe_op op_cat (pv 1) (pe_ifExp (PW.pt (pw_and (pt_cmpR op_eq (pe_ix ix_tup (pv 2) pe_int (fun _ _ => rfl)) pe_str (nomark _)) (pw_and1 (pt_cmpR (op_neM hr.units) (pe_ix ix_tup (pv 2) pe_int (fun _ _ => rfl)) (pe_tup pa_nil) (nomark _))))) (pe_op op_cat (pe_lst (pa_cons pe_str pa_nil)) (pe_f0 C__law_lines hr (by omega) (by rfl) (pa_cons (pe_ix ix_tup (pv 2) pe_int (fun _ _ => rfl)) pa_nil))) (pe_lst pa_nil))))
      (pss_one (ps_set (i := 1) sc__law_lines.nd rfl (Or.inl rfl) (pe_op op_cat (pv 1) (pe_lst (pa_cons pe_str pa_nil))))))) (pss_one (ps_if (pt_cmpR op_eq (pe_ix ix_tup (pv 2) pe_int (fun _ _ => rfl)) pe_str (nomark _)) (pss_one (ps_set (i := 1) sc__law_lines.nd rfl (Or.inl rfl) (pe_op op_cat (pe_op op_cat (pe_op op_cat (pv 1) (pe_lst (pa_cons (pe_op op_add_str pe_str (pe_callTy call_str_int (by rfl) T.b_str (by decide +kernel) (pa_cons (pe_ix ix_tup (pv 2) pe_int (fun _ _ => rfl)) pa_nil))) pa_nil))) (pe_f0 C__law_lines hr (by omega) (by rfl) (pa_cons (pe_ix ix_tup (pv 2) pe_int (fun _ _ => rfl)) pa_nil))) (pe_lst (pa_cons pe_str pa_nil))))) (pss_one (ps_if (pt_cmpR op_eq (pe_ix ix_tup (pv 2) pe_int (fun _ _ => rfl)) pe_str (nomark _)) (pss_one (ps_expr (pe_bm PySem.F.plainAttrs_list PySem.F.slot_list_append PySem.F.type_list_append mt_append (pv 1) (pa_cons (pe_op op_add_str (pe_op op_add_str (pe_op op_add_str pe_str (pe_ix ix_tup (pv 2) pe_int (fun _ _ => rfl))) pe_str) (pe_f0 C__law_sum_text hr (by omega) (by rfl) (pa_cons (pe_ix ix_tup (pv 2) pe_int (fun _ _ => rfl)) (pa_cons pe_bl pa_nil)))) pa_nil)))) (pss_one (ps_if (pt_cmpR op_eq (pe_ix ix_tup (pv 2) pe_int (fun _ _ => rfl)) pe_str (nomark _)) (pss_one (ps_expr (pe_bm PySem.F.plainAttrs_list PySem.F.slot_list_append PySem.F.type_list_append mt_append (pv 1) (pa_cons (pe_op op_add_str pe_str (pe_f0 C__law_sum_text hr (by omega) (by rfl) (pa_cons (pe_ix ix_tup (pv 2) pe_int (fun _ _ => rfl)) (pa_cons pe_bl pa_nil)))) pa_nil)))) (pss_one (ps_expr (pe_bm PySem.F.plainAttrs_list PySem.F.slot_list_append PySem.F.type_list_append mt_append (pv 1) (pa_cons (pe_joinK (K := K) rfl pe_str (pv 2)) pa_nil)))))))))))))
      (pss_one (ps_ret (pv 1)))))), ?_⟩), hm, D.kp, D.bindsN (fun _ _ _ _ _ _ us hl => match us, hl with | [_], _ => rfl), .nil⟩
    · obtain ⟨v, b, names, done, d, rfl, _⟩ := h
      rfl
    · obtain ⟨v, b, names, done, d, rfl, hv, hok, hn, hdn, hh, hz, k⟩ := h
      obtain ⟨ad, xs, rfl, had, hxs⟩ := id hv
      have hlen : xs.length = b.length := by
        rw [TdL.len hxs, ePs_map, List.length_map]
      refine q_asgL (xs := []) (el_lst ea_nil (Nat.zero_le _)) fun l H1 hl0 e1 hl => ?_
      refine q_forT (xs := xs) (ev_var rfl) (sumT e1 had) (fun i σ' H' => ∃ (l : Addr) (x : Option V), σ' = [some (.ref ad), some (.ref l), x] ∧ H l = none ∧ Ex H H' ∧ H' l = some (.lst (((linesB (b.take i)).map jn).map V.str))) (fun H2 e2 => ⟨l, none, rfl, hl0, e1.trans e2, e2 _ _ hl⟩) (fun i σ' H' _ ⟨_, _, _, _, e, _⟩ => sumT e had) ?_ ?_
      · rintro i x σ' H' hx ⟨l, x0, rfl, hl0, e, hl⟩
        obtain ⟨dt, hdt, htd⟩ := hxs.get hx
        obtain ⟨p, hp, rfl⟩ := ePs_get hdt
        have htp := htB_get hp
        have hzp := szB_get hp
        have hkp := okB_get hok hp
        have hll := linesB_len (b.take i)
        have hti := linesB_take hp
        have hbi : (linesB (b.take i)).length ≤ 3000 := by
          have := szTake b i
          omega
        have htd' := htd.ex e
        have hml : ∀ q : List (List Str), ((q.map jn).map V.str).length = q.length := fun q => by rw [List.length_map, List.length_map]
        -- behind the new lines
        have fin : ∀ (q : List (List Str)), linesP p = q → ∀ (l' : Addr) (H2 : Hp) (x : Option V), H l' = none → Ex H H2 → H2 l' = some (.lst (((linesB (b.take i)).map jn).map V.str ++ (q.map jn).map V.str)) →
            ∃ (l : Addr) (x' : Option V), ([some (.ref ad), some (.ref l'), x] : L2.St) = [some (.ref ad), some (.ref l), x'] ∧ H l = none ∧ Ex H H2 ∧ H2 l = some (.lst (((linesB (b.take (i + 1))).map jn).map V.str)) := fun q hq l' H2 x h1 h2 h3 => ⟨l', x, rfl, h1, h2, by rw [h3, hti, map_jn, hq]⟩
        -- one line at the end of the list that stands
        have app1 : ∀ (ws : List Str), linesP p = [ws] → ∀ {te ta : TE} {D : Ends} {H2 : Hp} {σ : L2.St}, Ex H' H2 → Ev ta σ H2 (.ref l) → Ev te σ H2 (.str (jn ws)) → (∀ H3, Ex H H3 → H3 l = some (.lst (((linesB (b.take i)).map jn).map V.str ++ (([ws] : List (List Str)).map jn).map V.str)) → D.nx σ H3) → tDrop (tBM K "list" rAppend ta (tCons te tNil)) D σ H2 :=
          fun ws hws {te ta D H2 σ} e2 ha h kk => s_app (e2 _ _ hl) ha h (by rw [hml]; omega) fun H3 e3 => kk _ (((e.trans e2).trans e3).mut hl0) (by rw [upd_same]; rfl)
        cases p with
        | letP x s =>
          rw [eP] at htd'
          obtain ⟨pa, rs, rfl, hpa, v0, r0, rfl, q0, v1, r1, rfl, q1, v2, r2, rfl, q2, q3⟩ := htd'
          cases (show v0 = .str "let" from q0)
          cases (show v1 = .str x from q1)
          cases (show r2 = [] from q3)
          rw [okP] at hkp
          have hT : ∀ H1, Ex H' H1 → SqT K H1 pa [V.str "let", V.str x, v2] := fun H1 e => sumT e hpa
          have h24 := hkp.2.2.2
          have h6 := hkp.2.2.1
          have l1 := sl_sum hn (inn := false) hkp.2.1 h24
          have lx := (isName_spec (hn x hkp.1)).2.1
          have c1 : ("let " : Str).length = 4 := by decide +kernel
          have c2 : (" = " : Str).length = 3 := by decide +kernel
          refine s_if (b := false) (et_is (et_test (ev_opL (ev_w0 (ev_var rfl) (hT _ (Ex.refl _))) (el_lst (vs := [V.str "if", V.str "while"]) (ea_cons ev_c (ea_cons ev_c ea_nil)) (by simp)) fun p H3 hp3 e3 => rv_inLs (l := ["if", "while"]) (sq_of hp3))) (by decide +kernel)) (fun h => nomatch h) fun _ H2 e2 => ?_
          refine s_if (b := false) (et_w (ev_w0 (ev_var rfl) (hT _ e2)) (by decide +kernel)) (fun h => nomatch h) fun _ H3 e3' => ?_
          have e3 := e2.trans e3'
          refine s_if (b := true) (et_w (ev_w0 (ev_var rfl) (hT _ e3)) (decide_eq_true rfl)) (fun _ H4 e4' => ?_) fun h => nomatch h
          have e4 := e3.trans e4'
          have hlp : linesP (.letP x s) = [(["let", x, "="] : List Str) ++ sumW s false] := by rw [linesP]; all_goals (intros; contradiction)
          refine app1 _ hlp e4 (ev_var rfl) (ev_is (ev_addS (ev_addS (ev_addS ev_c (ev_w1 (ev_var rfl) (hT _ e4)) (by omega)) ev_c (by rw [len_app]; omega)) (ev_call (z := .str (jn (sumW s false))) (ea_cons (ev_w2 (ev_var rfl) (hT _ e4)) (ea_cons ev_c ea_nil)) fun H5 e5 Q' q E' => ⟨v2, names, s, false, rfl, q2.ex (e4.trans e5), hn, hkp.2.1, by omega, h24, q⟩) (by rw [len_app, len_app]; omega)) ?_) fun H5 e5 h5 => fin _ hlp l H5 _ hl0 e5 h5
          rw [jn_app (by simp) (sumW_ne _ _)]
          have ej : jn (["let", x, "="] : List Str) ++ (" " : Str) = ("let " : Str) ++ x ++ (" = " : Str) := by
            rw [show (["let", x, "="] : List Str) = (["let"] : List Str) ++ (([x] : List Str) ++ (["="] : List Str)) from rfl, jn_app (by simp) (by simp), jn_app (by simp) (by simp), jn_one, jn_one, jn_one]
            have e1 : ("let " : Str) = ("let" : Str) ++ (" " : Str) := by decide +kernel
            have e2 : (" = " : Str) = (" " : Str) ++ (("=" : Str) ++ (" " : Str)) := by decide +kernel
            rw [e1, e2]
            simp only [str_app]
          rw [ej]
        | say s =>
          rw [eP] at htd'
          obtain ⟨pa, rs, rfl, hpa, v0, r0, rfl, q0, v1, r1, rfl, q1, q3⟩ := htd'
          cases (show v0 = .str "say" from q0)
          cases (show r1 = [] from q3)
          rw [okP] at hkp
          have hT : ∀ H1, Ex H' H1 → SqT K H1 pa [V.str "say", v1] := fun H1 e => sumT e hpa
          have h24 := hkp.2.2
          have h6 := hkp.2.1
          have l1 := sl_sum hn (inn := false) hkp.1 h24
          have c1 : ("say " : Str).length = 4 := by decide +kernel
          refine s_if (b := false) (et_is (et_test (ev_opL (ev_w0 (ev_var rfl) (hT _ (Ex.refl _))) (el_lst (vs := [V.str "if", V.str "while"]) (ea_cons ev_c (ea_cons ev_c ea_nil)) (by simp)) fun p H3 hp3 e3 => rv_inLs (l := ["if", "while"]) (sq_of hp3))) (by decide +kernel)) (fun h => nomatch h) fun _ H2 e2 => ?_
          refine s_if (b := false) (et_w (ev_w0 (ev_var rfl) (hT _ e2)) (by decide +kernel)) (fun h => nomatch h) fun _ H3 e3' => ?_
          have e3 := e2.trans e3'
          refine s_if (b := false) (et_w (ev_w0 (ev_var rfl) (hT _ e3)) (by decide +kernel)) (fun h => nomatch h) fun _ H4 e4' => ?_
          have e4 := e3.trans e4'
          refine s_if (b := true) (et_w (ev_w0 (ev_var rfl) (hT _ e4)) (decide_eq_true rfl)) (fun _ H5 e5' => ?_) fun h => nomatch h
          have e5 := e4.trans e5'
          have hlp : linesP (.say s) = [(["say"] : List Str) ++ sumW s false] := by rw [linesP]; all_goals (intros; contradiction)
          refine app1 _ hlp e5 (ev_var rfl) (ev_is (ev_addS ev_c (ev_call (z := .str (jn (sumW s false))) (ea_cons (ev_w1 (ev_var rfl) (hT _ e5)) (ea_cons ev_c ea_nil)) fun H6 e6 Q' q E' => ⟨v1, names, s, false, rfl, q1.ex (e5.trans e6), hn, hkp.1, by omega, h24, q⟩) (by omega)) ?_) fun H6 e6 h6 => fin _ hlp l H6 _ hl0 e6 h6
          rw [jn_line (sumW_ne _ _), show ("say " : Str) = ("say" : Str) ++ (" " : Str) by decide +kernel]
        | rep m c =>
          rw [eP] at htd'
          obtain ⟨pa, rs, rfl, hpa, v0, r0, rfl, q0, v1, r1, rfl, q1, v2, r2, rfl, q2, q3⟩ := htd'
          cases (show v0 = .str "repeat" from q0)
          cases (show v1 = .int m from q1)
          cases (show r2 = [] from q3)
          rw [okP] at hkp
          rw [htP] at htp
          rw [szP] at hzp
          have hT : ∀ H1, Ex H' H1 → SqT K H1 pa [V.str "repeat", V.int m, v2] := fun H1 e => sumT e hpa
          have hc := linesB_len c
          have hm6 := hkp.1
          have c1 : ("repeat " : Str).length = 7 := by decide +kernel
          have lm := (sw_num (i := (m : Int)) ⟨by omega, by omega⟩).1
          refine s_if (b := false) (et_is (et_test (ev_opL (ev_w0 (ev_var rfl) (hT _ (Ex.refl _))) (el_lst (vs := [V.str "if", V.str "while"]) (ea_cons ev_c (ea_cons ev_c ea_nil)) (by simp)) fun p H3 hp3 e3 => rv_inLs (l := ["if", "while"]) (sq_of hp3))) (by decide +kernel)) (fun h => nomatch h) fun _ H2 e2 => ?_
          refine s_if (b := true) (et_w (ev_w0 (ev_var rfl) (hT _ e2)) (decide_eq_true rfl)) (fun _ H3 e3' => ?_) fun h => nomatch h
          have e3 := e2.trans e3'
          have hlp : linesP (.rep m c) = [(["repeat", numS m] : List Str)] ++ linesB c ++ [(["end"] : List Str)] := by rw [linesP]
          refine (fun (hh : EvL _ _ _ _) => s_asgL hh fun l2 H4 h20 e4 h2 => ?_) (el_cat (xs := ((linesB (b.take i)).map jn).map V.str ++ [V.str (("repeat " : Str) ++ numS m)] ++ ((linesB c).map jn).map V.str) (ys := [V.str "end"]) (el_cat (el_catV (ev_var rfl) (e3 _ _ hl) (el_lst (vs := [V.str (("repeat " : Str) ++ numS m)]) (ea_cons (ev_addS ev_c (ev_strI (ev_w1 (ev_var rfl) (hT _ e3)) (by omega)) (by omega)) ea_nil) (by simp)) (by rw [hml, List.length_singleton]; omega))
            (el_call (ea_cons (ev_w2 (ev_var rfl) (hT _ e3)) ea_nil) fun H5 e6 Q' q E' => ⟨v2, c, names, done, d + 1, rfl, q2.ex (e3.trans e6), hkp.2.2, hn, hdn, by omega, by omega, q⟩) (by rw [List.length_append, hml, hml, List.length_singleton]; omega))
            (el_lst (ea_cons ev_c ea_nil) (by simp)) (by rw [List.length_append, List.length_append, hml, hml, List.length_singleton, List.length_singleton]; omega))
          refine fin _ hlp l2 H4 _ (fresh_back (e.trans e3) h20) ((e.trans e3).trans e4) ?_
          rw [h2, map_jn, map_jn]
          have ej : jn (["repeat", numS m] : List Str) = ("repeat " : Str) ++ numS m := by
            rw [show (["repeat", numS m] : List Str) = (["repeat"] : List Str) ++ ([numS m] : List Str) from rfl, jn_line (by simp), jn_one, show ("repeat " : Str) = ("repeat" : Str) ++ (" " : Str) by decide +kernel]
          simp [ej, jn_one]
        | whl s z c =>
          rw [eP] at htd'
          obtain ⟨pa, rs, rfl, hpa, v0, r0, rfl, q0, v1, r1, rfl, ⟨tta, tts, rfl, hta, vs, r5, rfl, hvs, vz, r6, rfl, hvz, q6⟩, v2, r2, rfl, q2, q3⟩ := htd'
          cases (show v0 = .str "while" from q0)
          cases (show vz = .bl z from hvz)
          cases (show r6 = [] from q6)
          cases (show r2 = [] from q3)
          rw [okP] at hkp
          rw [htP] at htp
          rw [szP] at hzp
          have hT : ∀ H1, Ex H' H1 → SqT K H1 pa [V.str "while", .ref tta, v2] := fun H1 e => sumT e hpa
          have hc := linesB_len c
          have h24 := hkp.1.2.2
          have h6 := hkp.1.2.1
          have l1 := sl_sum hn (inn := false) hkp.1.1 h24
          have lz : ∀ z : Bool, (if z = true then (" = 0" : Str) else (" != 0" : Str)).length ≤ 5 := by intro z; cases z <;> decide +kernel
          have lw : ("while" : Str).length ≤ 6 := by decide +kernel
          have ls : (" " : Str).length = 1 := by decide +kernel
          refine s_if (b := true) (et_is (et_test (ev_opL (ev_w0 (ev_var rfl) (hT _ (Ex.refl _))) (el_lst (vs := [V.str "if", V.str "while"]) (ea_cons ev_c (ea_cons ev_c ea_nil)) (by simp)) fun p H3 hp3 e3 => rv_inLs (l := ["if", "while"]) (sq_of hp3))) (by decide +kernel)) (fun _ H2 e2 => ?_) fun h => nomatch h
          have ej : ("while" : Str) ++ (" " : Str) ++ jn (sumW s false) ++ (if z = true then (" = 0" : Str) else (" != 0" : Str)) = jn ((["while"] : List Str) ++ tsW s z) := by
            rw [jn_line (tsW_ne _ _), jn_test]
            simp only [str_app]
          refine q_asgL (xs := ((linesB (b.take i)).map jn).map V.str ++ [V.str (jn ((["while"] : List Str) ++ tsW s z))] ++ ((linesB c).map jn).map V.str) (el_cat (el_catV (ev_var rfl) (e2 _ _ hl) (el_lst (vs := [V.str (jn ((["while"] : List Str) ++ tsW s z))]) (ea_cons (ev_is (ev_addS (ev_addS (ev_addS (ev_w0 (ev_var rfl) (hT _ e2)) ev_c (by omega)) (ev_call (z := .str (jn (sumW s false))) (ea_cons (ev_w0 (ev_w1 (ev_var rfl) (hT _ e2)) (sumT e2 hta)) (ea_cons ev_c ea_nil)) fun H5 e5 Q' q E' => ⟨vs, names, s, false, rfl, hvs.ex (e2.trans e5), hn, hkp.1.1, by omega, h24, q⟩) (by rw [len_app]; omega))
              (ev_if (v := .str (if z = true then (" = 0" : Str) else (" != 0" : Str))) (b := z) (et_test (ev_w1 (ev_w1 (ev_var rfl) (hT _ e2)) (sumT e2 hta))) (fun h => by subst h; exact ev_c) (fun h => by subst h; exact ev_c)) (by have := lz z; rw [len_app, len_app]; omega)) (by rw [ej])) ea_nil) (by simp)) (by rw [hml, List.length_singleton]; omega))
            (el_call (ea_cons (ev_w2 (ev_var rfl) (hT _ e2)) ea_nil) fun H5 e6 Q' q E' => ⟨v2, c, names, done, d + 1, rfl, q2.ex (e2.trans e6), hkp.2.2, hn, hdn, by omega, by omega, q⟩) (by rw [List.length_append, hml, hml, List.length_singleton]; omega)) fun l2 H4 h20 e4 h2 => ?_
          have e24 := e2.trans e4
          have hl20 := fresh_back (e.trans e2) h20
          refine q_asgL (xs := ((linesB (b.take i)).map jn).map V.str ++ [V.str (jn ((["while"] : List Str) ++ tsW s z))] ++ ((linesB c).map jn).map V.str ++ []) (el_catV (ev_var rfl) h2 (el_if (b := false) (et_and (a := false) (b := false) (et_w (ev_w0 (ev_var rfl) (hT _ e24)) (by decide +kernel)) fun h => nomatch h) (fun hb => nomatch hb) (fun hb => el_lst ea_nil (Nat.zero_le _))) (by rw [List.length_append, List.length_append, hml, hml, List.length_singleton, List.length_nil]; omega)) fun l3 H5 h30 e5 h3 => ?_
          have e25 := e24.trans e5
          refine s_asgL (xs := ((linesB (b.take i)).map jn).map V.str ++ [V.str (jn ((["while"] : List Str) ++ tsW s z))] ++ ((linesB c).map jn).map V.str ++ [] ++ [V.str "end"]) (el_catV (ev_var rfl) h3 (el_lst (ea_cons ev_c ea_nil) (by simp)) (by rw [List.length_append, List.length_append, List.length_append, hml, hml, List.length_singleton, List.length_singleton, List.length_nil]; omega)) fun l4 H6 h40 e6 h4 => ?_
          refine fin _ (by rw [linesP]) l4 H6 _ (fresh_back (e.trans e25) h40) ((e.trans e25).trans e6) ?_
          rw [h4, map_jn, map_jn]
          simp [jn_one]
        | ifP s z b1 c =>
          rw [eP] at htd'
          obtain ⟨pa, rs, rfl, hpa, v0, r0, rfl, q0, v1, r1, rfl, ⟨tta, tts, rfl, hta, vs, r5, rfl, hvs, vz, r6, rfl, hvz, q6⟩, v2, r2, rfl, q2, v3, r3, rfl, q3, q4⟩ := htd'
          cases (show v0 = .str "if" from q0)
          cases (show vz = .bl z from hvz)
          cases (show r6 = [] from q6)
          cases (show r3 = [] from q4)
          rw [okP] at hkp
          rw [htP] at htp
          rw [szP] at hzp
          have hT : ∀ H1, Ex H' H1 → SqT K H1 pa [V.str "if", .ref tta, v2, v3] := fun H1 e => sumT e hpa
          have hc := linesB_len c
          have hb1 := linesB_len b1
          have h24 := hkp.1.2.2
          have h6 := hkp.1.2.1
          have l1 := sl_sum hn (inn := false) hkp.1.1 h24
          have lz : ∀ z : Bool, (if z = true then (" = 0" : Str) else (" != 0" : Str)).length ≤ 5 := by intro z; cases z <;> decide +kernel
          have lw : ("if" : Str).length ≤ 6 := by decide +kernel
          have ls : (" " : Str).length = 1 := by decide +kernel
          refine s_if (b := true) (et_is (et_test (ev_opL (ev_w0 (ev_var rfl) (hT _ (Ex.refl _))) (el_lst (vs := [V.str "if", V.str "while"]) (ea_cons ev_c (ea_cons ev_c ea_nil)) (by simp)) fun p H3 hp3 e3 => rv_inLs (l := ["if", "while"]) (sq_of hp3))) (by decide +kernel)) (fun _ H2 e2 => ?_) fun h => nomatch h
          have ej : ("if" : Str) ++ (" " : Str) ++ jn (sumW s false) ++ (if z = true then (" = 0" : Str) else (" != 0" : Str)) = jn ((["if"] : List Str) ++ tsW s z) := by
            rw [jn_line (tsW_ne _ _), jn_test]
            simp only [str_app]
          refine q_asgL (xs := ((linesB (b.take i)).map jn).map V.str ++ [V.str (jn ((["if"] : List Str) ++ tsW s z))] ++ ((linesB b1).map jn).map V.str) (el_cat (el_catV (ev_var rfl) (e2 _ _ hl) (el_lst (vs := [V.str (jn ((["if"] : List Str) ++ tsW s z))]) (ea_cons (ev_is (ev_addS (ev_addS (ev_addS (ev_w0 (ev_var rfl) (hT _ e2)) ev_c (by omega)) (ev_call (z := .str (jn (sumW s false))) (ea_cons (ev_w0 (ev_w1 (ev_var rfl) (hT _ e2)) (sumT e2 hta)) (ea_cons ev_c ea_nil)) fun H5 e5 Q' q E' => ⟨vs, names, s, false, rfl, hvs.ex (e2.trans e5), hn, hkp.1.1, by omega, h24, q⟩) (by rw [len_app]; omega))
              (ev_if (v := .str (if z = true then (" = 0" : Str) else (" != 0" : Str))) (b := z) (et_test (ev_w1 (ev_w1 (ev_var rfl) (hT _ e2)) (sumT e2 hta))) (fun h => by subst h; exact ev_c) (fun h => by subst h; exact ev_c)) (by have := lz z; rw [len_app, len_app]; omega)) (by rw [ej])) ea_nil) (by simp)) (by rw [hml, List.length_singleton]; omega))
            (el_call (ea_cons (ev_w2 (ev_var rfl) (hT _ e2)) ea_nil) fun H5 e6 Q' q E' => ⟨v2, b1, names, done, d + 1, rfl, q2.ex (e2.trans e6), hkp.2.2.1, hn, hdn, by omega, by omega, q⟩) (by rw [List.length_append, hml, hml, List.length_singleton]; omega)) fun l2 H4 h20 e4 h2 => ?_
          have e24 := e2.trans e4
          have hl20 := fresh_back (e.trans e2) h20
          refine q_asgL (xs := ((linesB (b.take i)).map jn).map V.str ++ [V.str (jn ((["if"] : List Str) ++ tsW s z))] ++ ((linesB b1).map jn).map V.str ++ (if c.isEmpty = true then [] else [V.str "else"] ++ ((linesB c).map jn).map V.str)) (el_catV (ev_var rfl) h2 (el_if (b := !c.isEmpty) (et_is (et_and (a := true) (b := !c.isEmpty) (et_w (ev_w0 (ev_var rfl) (hT _ e24)) (decide_eq_true rfl)) fun _ => et_is (et_test (ev_neU (ev_w3 (ev_var rfl) (hT _ e24)) (q3.ex e24) (dtA_B hn hdn c _ hkp.2.2.2))) (by cases c <;> rfl)) (by rw [Bool.true_and])) (fun hb => ?_) (fun hb => ?_)) ?_) fun l3 H5 h30 e5 h3 => ?_
          · rw [if_neg (by intro h; rw [h] at hb; cases hb)]
            exact el_cat (el_lst (ea_cons ev_c ea_nil) (by simp)) (el_call (ea_cons (ev_w3 (ev_var rfl) (hT _ e24)) ea_nil) fun H5 e7 Q' q E' => ⟨v3, c, names, done, d + 1, rfl, q3.ex (e24.trans e7), hkp.2.2.2, hn, hdn, by omega, by omega, q⟩) (by rw [hml, List.length_singleton]; omega)
          · rw [if_pos (by cases h : c.isEmpty with | true => rfl | false => rw [h] at hb; cases hb)]
            exact el_lst ea_nil (Nat.zero_le _)
          · have : (if c.isEmpty = true then ([] : List V) else [V.str "else"] ++ ((linesB c).map jn).map V.str).length ≤ 3001 := by
              split
              · simp
              · rw [List.length_append, hml, List.length_singleton]
                omega
            rw [List.length_append, List.length_append, hml, hml, List.length_singleton]
            omega
          have e25 := e24.trans e5
          refine s_asgL (xs := ((linesB (b.take i)).map jn).map V.str ++ [V.str (jn ((["if"] : List Str) ++ tsW s z))] ++ ((linesB b1).map jn).map V.str ++ (if c.isEmpty = true then [] else [V.str "else"] ++ ((linesB c).map jn).map V.str) ++ [V.str "end"]) (el_catV (ev_var rfl) h3 (el_lst (ea_cons ev_c ea_nil) (by simp)) ?_) fun l4 H6 h40 e6 h4 => ?_
          · have : (if c.isEmpty = true then ([] : List V) else [V.str "else"] ++ ((linesB c).map jn).map V.str).length ≤ 3001 := by
              split
              · simp
              · rw [List.length_append, hml, List.length_singleton]
                omega
            rw [List.length_append, List.length_append, List.length_append, hml, hml, List.length_singleton, List.length_singleton]
            omega
          · refine fin _ (linesP_if s z b1 c) l4 H6 _ (fresh_back (e.trans e25) h40) ((e.trans e25).trans e6) ?_
            rw [h4, map_jn, map_jn, map_jn]
            cases c <;> simp [jn_one, linesB, map_jn, List.isEmpty]
        | _ =>
          rw [eP] at htd'
          rw [okP] at hkp
          first
          | obtain ⟨pa, rs, rfl, hpa, v0, r0, rfl, q0, v1, r1, rfl, q1, q3⟩ := htd'
            cases (show v0 = .str _ from q0)
            cases (show v1 = .str _ from q1)
            cases (show r1 = [] from q3)
          | obtain ⟨pa, rs, rfl, hpa, v0, r0, rfl, q0, q3⟩ := htd'
            cases (show v0 = .str _ from q0)
            cases (show r0 = [] from q3)
          refine s_if (b := false) (et_is (et_test (ev_opL (ev_w0 (ev_var rfl) (sumT (Ex.refl _) hpa)) (el_lst (vs := [V.str "if", V.str "while"]) (ea_cons ev_c (ea_cons ev_c ea_nil)) (by simp)) fun p H3 hp3 e3 => rv_inLs (l := ["if", "while"]) (sq_of hp3))) (by decide +kernel)) (fun h => nomatch h) fun _ H2 e2 => ?_
          refine s_if (b := false) (et_w (ev_w0 (ev_var rfl) (sumT e2 hpa)) (by decide +kernel)) (fun h => nomatch h) fun _ H3 e3' => ?_
          have e3 := e2.trans e3'
          refine s_if (b := false) (et_w (ev_w0 (ev_var rfl) (sumT e3 hpa)) (by decide +kernel)) (fun h => nomatch h) fun _ H4 e4' => ?_
          have e4 := e3.trans e4'
          refine s_if (b := false) (et_w (ev_w0 (ev_var rfl) (sumT e4 hpa)) (by decide +kernel)) (fun h => nomatch h) fun _ H5 e5' => ?_
          have e5 := e4.trans e5'
          have lb : ∀ x : Str, x ∈ names ∨ x ∈ done → x.length ≤ 8 := fun x hx => (isName_spec (hx.elim (hn x) (hdn x))).2.1
          have ls : (" " : Str).length = 1 := by decide +kernel
          first
          | refine app1 [_, _] (by rw [linesP]) e5 (ev_var rfl) (ev_joinV ev_c (ev_var rfl) (.inr (e5 _ _ hpa)) ?_) fun H6 e6 h6 => fin _ (by rw [linesP]) l H6 _ hl0 e6 h6
            have := lb _ (by first | exact .inl hkp | exact .inr hkp)
            have h3 : ("ask" : Str).length = 3 := by decide +kernel
            have h2 : ("do" : Str).length = 2 := by decide +kernel
            simp only [List.map_cons, List.map_nil, List.sum_cons, List.sum_nil, List.length_cons, List.length_nil]
            omega
          | refine app1 [_] (by rw [linesP]) e5 (ev_var rfl) (ev_joinV ev_c (ev_var rfl) (.inr (e5 _ _ hpa)) (by decide +kernel)) fun H6 e6 h6 => fin _ (by rw [linesP]) l H6 _ hl0 e6 h6
      · rintro σ' H' ⟨l, x0, rfl, hl0, e, hl⟩
        rw [hlen, List.take_length] at hl
        exact s_ret (v := .ref l) (ev_var rfl) fun H4 e4 => k l H4 hl0 (e.trans e4) (e4 _ _ hl)
theorem c_llines (T : Txt K mg w a) : CalG CX0 P w K mg base 17 "_law_lines" (spLLines 7) [] := b_llines T 7
end
end RS
end
section
set_option Elab.async false
set_option linter.all false
set_option maxRecDepth 100000
set_option maxHeartbeats 4000000
/-! W24: _law_alike. -/
namespace RS
open PySem L2 TL Evl
mutual
def dpt : Dt → Nat
  | .tup ds => 1 + dpts ds
  | _ => 0
def dpts : List Dt → Nat
  | [] => 0
  | d :: ds => max (dpt d) (dpts ds)
end
mutual
def dtW : Dt → Prop
  | .tup ds => ds.length ≤ 1000 ∧ dtWs ds
  | _ => True
def dtWs : List Dt → Prop
  | [] => True
  | d :: ds => dtW d ∧ dtWs ds
end
theorem dpts_get : ∀ {ds : List Dt} {i : Nat} {d : Dt}, ds[i]? = some d → dpt d ≤ dpts ds
  | [], i, d, h => by simp at h
  | e :: ds, 0, d, h => by
    cases (Option.some.inj h : e = d)
    rw [dpts]
    omega
  | e :: ds, i + 1, d, h => by
    have := dpts_get (ds := ds) (i := i) h
    rw [dpts]
    omega
theorem dtWs_get : ∀ {ds : List Dt} {i : Nat} {d : Dt}, dtWs ds → ds[i]? = some d → dtW d
  | [], i, d, _, h => by simp at h
  | e :: ds, 0, d, hw, h => by
    cases (Option.some.inj h : e = d)
    exact hw.1
  | e :: ds, i + 1, d, hw, h => dtWs_get (ds := ds) (i := i) hw.2 h
theorem dtAs_get : ∀ {ds : List Dt} {i : Nat} {d : Dt}, dtAs ds → ds[i]? = some d → dtA d
  | [], i, d, _, h => by simp at h
  | e :: ds, 0, d, hw, h => by
    cases (Option.some.inj h : e = d)
    exact hw.1
  | e :: ds, i + 1, d, hw, h => dtAs_get (ds := ds) (i := i) hw.2 h
def spAlike (n : Nat) : Sp := fun vs H Q _ => ∃ (v1 v2 : V) (d : Dt), vs = [v1, v2] ∧ Td H d v1 ∧ Td H d v2 ∧ dtA d ∧ dtW d ∧ dpt d < n ∧ RetV (.bl true) H Q
theorem k_tuple_list : kitB "tuple" "list" = some false := by decide +kernel
theorem k_bool_list : kitB "bool" "list" = some false := by decide +kernel
theorem k_int_list : kitB "int" "list" = some false := by decide +kernel
theorem k_str_list : kitB "str" "list" = some false := by decide +kernel
theorem k_none_list : kitB "NoneType" "list" = some false := by decide +kernel
theorem k_none_tuple : kitB "NoneType" "tuple" = some false := by decide +kernel
def tyN : Dt → String
  | .non => "NoneType"
  | .bl _ => "bool"
  | .int _ => "int"
  | .str _ => "str"
  | .tup _ => "tuple"
section
variable {K : PySem.W.Frag} {σ : L2.St} {H : Hp} {te ta tb : TE}
theorem ty_dt {d : Dt} {v : V} (h : Td H d v) : ∀ H1, Ex H H1 → TyX K H1 v (.type (tyN d)) := fun H1 e => by
  cases d with
  | non => cases (show v = .non from h); exact ty_non
  | bl b => cases (show v = .bl b from h); exact ty_bl
  | int i => cases (show v = .int i from h); exact ty_int
  | str x => cases (show v = .str x from h); exact ty_str
  | tup ds =>
    obtain ⟨a, xs, rfl, ha, _⟩ := h
    exact ty_tup (e _ _ ha)
theorem ev_isD {d : Dt} {v : V} {n : String} {b : Bool} (h : Td H d v) (ha : Ev ta σ H v) (hb : Ev tb σ H (.ty n)) (hk : kitB (tyN d) n = some b) : Ev (tCB (rIsi K) (tCons ta (tCons tb tNil))) σ H (.bl b) := ev_isi ha hb (ty_dt h) hk
theorem ev_isTL {d : Dt} {v : V} {b : Bool} (h : Td H d v) (ha : Ev ta σ H v) (hk : PySem.W.kitAny K (.type (tyN d)) [.type "tuple", .type "list"] = some b) :
    Ev (tCB (rIsiT K) (tCons ta (tCons (tTup (tCons (tC (.ty "tuple")) (tCons (tC (.ty "list")) tNil))) tNil))) σ H (.bl b) := fun H1 e Q q =>
  ha H1 e _ fun H2 e2 => ⟨by show 2 ≤ sizeLine; exact sz_of (by decide), fun p hp => by
    have e3 := Ex.new (o := .tup [V.ty "tuple", V.ty "list"]) hp
    exact ⟨v, p, _, _, _, b, rfl, upd_same, .cons (.ty _) (.cons (.ty _) .nil), ty_dt h _ ((e.trans e2).trans e3), hk, q _ (e2.trans e3)⟩⟩
theorem ka {d : Dt} : PySem.W.kitAny K (.type (tyN d)) [.type "tuple", .type "list"] = some (match d with | .tup _ => true | _ => false) := by
  cases d with
  | tup ds => exact kitAny_cons (b := true) (kit_ty k_tuple_tuple) (fun h => nomatch h) fun _ => rfl
  | non => exact kitAny_cons (b := false) (kit_ty k_none_tuple) (fun _ => kitAny_cons (b := false) (kit_ty k_none_list) (fun _ => kitAny_nil) fun h => nomatch h) fun h => nomatch h
  | bl b => exact kitAny_cons (b := false) (kit_ty k_bool_tuple) (fun _ => kitAny_cons (b := false) (kit_ty k_bool_list) (fun _ => kitAny_nil) fun h => nomatch h) fun h => nomatch h
  | int i => exact kitAny_cons (b := false) (kit_ty k_int_tuple) (fun _ => kitAny_cons (b := false) (kit_ty k_int_list) (fun _ => kitAny_nil) fun h => nomatch h) fun h => nomatch h
  | str x => exact kitAny_cons (b := false) (kit_ty k_str_tuple) (fun _ => kitAny_cons (b := false) (kit_ty k_str_list) (fun _ => kitAny_nil) fun h => nomatch h) fun h => nomatch h
theorem ev_eqD {d : Dt} {v1 v2 : V} (h1 : Td H d v1) (h2 : Td H d v2) (ha : Ev ta σ H v1) (hb : Ev tb σ H v2) (hc : (toP d).canLay0 = true) (hd : (toP d).depth ≤ 60) (he : PyData.eqv (toP d) (toP d) = true) : Ev (tOp (rEqM K) ta tb) σ H (.bl true) :=
  ev_op ha hb fun H1 e Q q => ⟨_, _, Td.toDp _ _ (h1.ex e), Td.toDp _ _ (h2.ex e), hc, hc, by omega, by rw [he]; exact q H1 (Ex.refl H1)⟩
theorem ev_eqB {a b : Bool} (ha : Ev ta σ H (.bl a)) (hb : Ev tb σ H (.bl a)) : Ev (tOp rEq ta tb) σ H (.bl true) := ev_is (ev_op ha hb (rv_eq rfl)) (by rw [decide_eq_true rfl])
end
section
variable {P : Program} {w : World} {K : PySem.W.Frag} {mg : Str → Option Value} {base : Heap} {a : Ads}
theorem b_alike (T : Txt K mg w a) : ∀ n, CalG CX0 P w K mg base (n + 1) "_law_alike" (spAlike n) []
  | 0 => by
    obtain ⟨f, fd, D, hm⟩ := T.d__law_alike
    exact ⟨f, fd, ["_law_found", "_law_due"], [], FnOk.never fun vs H Q E h => by
      obtain ⟨_, _, _, _, _, _, _, _, h, _⟩ := h
      omega, hm, D.kp, D.bindsN (fun _ _ _ _ _ _ us hl => match us, hl with | [_, _], _ => rfl), .nil⟩
  | n + 1 => by
    have C__law_alike : CalG CX0 P w K mg base (n + 1) "_law_alike" (spAlike n) [] := b_alike T n
    obtain ⟨f, fd, D, hm⟩ := T.d__law_alike
    refine ⟨f, fd, _, _, D.ok sc__law_alike (fun vs H Q E h => ?_) (fun cdv A outer s H vs Q E hr h => ⟨_, PSs.nox ((pss_cons (ps_if (pt_val (pe_callB call_isiT (by rfl) T.b_isinstance (by decide +kernel) (pa_cons (pv 1) (pa_cons (pe_tup (pa_cons (pe_bltn (by rfl) T.b_tuple (by decide +kernel) (show RelV (.ty "tuple") (.type "tuple") from rfl)) (pa_cons (pe_bltn (by rfl) T.b_list (by decide +kernel) (show RelV (.ty "list") (.type "list") from rfl)) pa_nil))) pa_nil)))) (pss_cons (ps_if (PW.pt (pw_or (pt_not (pt_val (pe_callB call_isiT (by rfl) T.b_isinstance (by decide +kernel) (pa_cons (pv 0) (pa_cons (pe_tup (pa_cons (pe_bltn (by rfl) T.b_tuple (by decide +kernel) (show RelV (.ty "tuple") (.type "tuple") from rfl)) (pa_cons (pe_bltn (by rfl) T.b_list (by decide +kernel) (show RelV (.ty "list") (.type "list") from rfl)) pa_nil))) pa_nil))))) (pw_or1 (pt_cmpR op_ne (pe_callB call_isi (by rfl) T.b_isinstance (by decide +kernel) (pa_cons (pv 0) (pa_cons (pe_bltn (by rfl) T.b_list (by decide +kernel) (show RelV (.ty "list") (.type "list") from rfl)) pa_nil))) (pe_callB call_isi (by rfl) T.b_isinstance (by decide +kernel) (pa_cons (pv 1) (pa_cons (pe_bltn (by rfl) T.b_list (by decide +kernel) (show RelV (.ty "list") (.type "list") from rfl)) pa_nil))) (nomark _))))) (pss_one (ps_ret pe_bl)) pss_nil)
      (pss_cons (ps_if (pt_cmpR op_ne (pe_callB call_len_seq (by rfl) T.b_len (by decide +kernel) (pa_cons (pv 0) pa_nil)) (pe_callB call_len_seq (by rfl) T.b_len (by decide +kernel) (pa_cons (pv 1) pa_nil)) (nomark _)) (pss_one (ps_ret pe_bl)) pss_nil)
      (pss_one (ps_ret (pe_cmpR (op_eqM hr.units) (pe_lc (own := [("_law_k", 2)]) rfl sc__law_alike.nd (pi_range1 (by rfl) T.b_range (pa_cons (pe_callB call_len_seq (by rfl) T.b_len (by decide +kernel) (pa_cons (pv 1) pa_nil)) pa_nil)) (blkOk_by (N := ["_law_found", "_law_due", "_law_k"]) (sc := defScope st__law_alike) (by decide +kernel)) (fun _ _ _ _ _ => (pg_name (i := 2) sc__law_alike.nd rfl (Or.inl rfl))) (fun _ _ _ _ _ => (pts_one (pt_not (pt_val (pe_f0 C__law_alike hr (by omega) (by rfl) (pa_cons (pe_ix (ix_tupK (K := K) rfl) (pv 0) (pv 2) (fun _ _ => rfl)) (pa_cons (pe_ix (ix_tupK (K := K) rfl) (pv 1) (pv 2) (fun _ _ => rfl)) pa_nil))))))) (fun _ _ _ _ _ => (pv 2))) (pe_lst pa_nil) (nomark _)))))) pss_nil)
      (pss_cons (ps_if (PW.pt (pw_or (pt_cmpR op_isN (pv 1) pe_non (nomark _)) (pw_or1 (pt_val (pe_callB call_isi (by rfl) T.b_isinstance (by decide +kernel) (pa_cons (pv 1) (pa_cons (pe_bltn (by rfl) T.b_str (by decide +kernel) (show RelV (.ty "str") (.type "str") from rfl)) pa_nil))))))) (pss_one (ps_ret (pe_and (pe_cmpR (op_eqM hr.units) (pv 0) (pv 1) (nomark _)) (pe_one (pe_cmpR op_eq (pe_callB call_isi (by rfl) T.b_isinstance (by decide +kernel) (pa_cons (pv 0) (pa_cons (pe_bltn (by rfl) T.b_str (by decide +kernel) (show RelV (.ty "str") (.type "str") from rfl)) pa_nil))) (pe_callB call_isi (by rfl) T.b_isinstance (by decide +kernel) (pa_cons (pv 1) (pa_cons (pe_bltn (by rfl) T.b_str (by decide +kernel) (show RelV (.ty "str") (.type "str") from rfl)) pa_nil))) (nomark _)))))) pss_nil)
      (pss_one (ps_ret (pe_and (pe_callB call_isi (by rfl) T.b_isinstance (by decide +kernel) (pa_cons (pv 0) (pa_cons (pe_bltn (by rfl) T.b_int (by decide +kernel) (show RelV (.ty "int") (.type "int") from rfl)) pa_nil))) (pe_and (pe_cmpR op_eq (pe_callB call_isi (by rfl) T.b_isinstance (by decide +kernel) (pa_cons (pv 0) (pa_cons (pe_bltn (by rfl) T.b_bool (by decide +kernel) (show RelV (.ty "bool") (.type "bool") from rfl)) pa_nil))) (pe_callB call_isi (by rfl) T.b_isinstance (by decide +kernel) (pa_cons (pv 1) (pa_cons (pe_bltn (by rfl) T.b_bool (by decide +kernel) (show RelV (.ty "bool") (.type "bool") from rfl)) pa_nil))) (nomark _)) (pe_one (pe_cmpR (op_eqM hr.units) (pv 0) (pv 1) (nomark _)))))))))), ?_⟩), hm, D.kp, D.bindsN (fun _ _ _ _ _ _ us hl => match us, hl with | [_, _], _ => rfl), .nil⟩
    · obtain ⟨v1, v2, d, rfl, _⟩ := h
      rfl
    · obtain ⟨v1, v2, d, rfl, h1, h2, hA, hW, hd, k⟩ := h
      cases d with
      | tup ds =>
        obtain ⟨a1, xs, rfl, ha1, hx1⟩ := id h1
        obtain ⟨a2, ys, rfl, ha2, hx2⟩ := id h2
        have l1 := hx1.len
        have l2 := hx2.len
        have hw1 := hW.1
        refine q_yes (et_B (ev_isTL h2 (ev_var rfl) ka)) fun H1 e1 => ?_
        refine q_no (et_or (a := false) (b := false) (et_not (a := true) (et_B (ev_isTL (h1.ex e1) (ev_var rfl) ka))) fun _ => et_is (et_test (ev_op (ev_isD (h1.ex e1) (ev_var rfl) ev_c (b := false) k_tuple_list) (ev_isD (h2.ex e1) (ev_var rfl) ev_c (b := false) k_tuple_list) (rv_ne rfl))) (by decide)) fun H2 e2' => ?_
        have e2 := e1.trans e2'
        refine q_no (et_test (ev_neI (ev_lenT (ev_var rfl) (sumT e2 ha1)) (ev_lenT (ev_var rfl) (sumT e2 ha2)) (by rw [l1, l2, decide_eq_true rfl]; rfl))) fun H3 e3' => ?_
        have e3 := e2.trans e3'
        refine s_ret (v := .bl true) (ev_eqNil0 (el_is (el_lcR1 (n := (ys.length : Nat)) (fun _ => false) (fun _ => .non) (ea_cons (ev_lenT (ev_var rfl) (sumT e3 ha2)) ea_nil) ⟨by omega, by omega⟩ (fun x => rfl) (fun i H4 e4 hi => ?_) (fun i H4 e4 hi hf => nomatch hf)) (given_none fun _ _ => rfl))) fun H4 e4 => k.go (e3.trans e4)
        have e34 := e3.trans e4
        have hi2 : i < ys.length := by omega
        obtain ⟨x, hx⟩ : ∃ x, xs[i]? = some x := ⟨_, List.getElem?_eq_getElem (by omega)⟩
        obtain ⟨y, hy⟩ : ∃ y, ys[i]? = some y := ⟨_, List.getElem?_eq_getElem hi2⟩
        obtain ⟨d1, hd1, t1⟩ := hx1.get hx
        obtain ⟨d2, hd2, t2⟩ := hx2.get hy
        rw [hd1] at hd2
        cases hd2
        have hdp := dpts_get hd1
        have hd' : 1 + dpts ds < n + 1 := by
          have := hd
          rw [dpt] at this
          exact this
        exact et_not (a := true) (et_B (ev_call (ea_cons (ev_op (ev_var rfl) (ev_var rfl) (rv_ixT (sumT e34 ha1) (atI_nat hx))) (ea_cons (ev_op (ev_var rfl) (ev_var rfl) (rv_ixT (sumT e34 ha2) (atI_nat hy))) ea_nil)) fun H5 e5 Q' q E' => ⟨x, y, d1, rfl, t1.ex (e34.trans e5), t2.ex (e34.trans e5), dtAs_get hA hd1, dtWs_get hW.2 hd1, by omega, q⟩))
      | str x =>
        cases (show v1 = .str x from h1)
        cases (show v2 = .str x from h2)
        refine q_no (et_B (ev_isTL (d := .str x) rfl (ev_var rfl) ka)) fun H1 e1 => ?_
        refine q_yes (et_or (a := false) (b := true) (et_test (ev_isN (ev_var rfl) rfl)) fun _ => et_B (ev_isi (ev_var rfl) ev_c (fun _ _ => ty_str) k_str_str)) fun H2 e2 => ?_
        exact s_ret (ev_and2 (ev_eqD (d := .str x) rfl rfl (ev_var rfl) (ev_var rfl) (can_of (.str x) hA) (by rw [toP, PyData.depth]; decide) (by rw [toP, PyData.eqv]; simp)) (ev_eqB (b := true) (ev_isi (ev_var rfl) ev_c (fun _ _ => ty_str) k_str_str) (ev_isi (ev_var rfl) ev_c (fun _ _ => ty_str) k_str_str))) fun H3 e3 => k.go ((e1.trans e2).trans e3)
      | non =>
        cases (show v1 = .non from h1)
        cases (show v2 = .non from h2)
        refine q_no (et_B (ev_isTL (d := .non) rfl (ev_var rfl) ka)) fun H1 e1 => ?_
        refine q_yes (et_or (a := true) (b := false) (et_test (ev_isN (ev_var rfl) rfl)) fun h => nomatch h) fun H2 e2 => ?_
        exact s_ret (ev_and2 (ev_eqD (d := .non) rfl rfl (ev_var rfl) (ev_var rfl) (can_of .non trivial) (by rw [toP, PyData.depth]; decide) (by rw [toP, PyData.eqv])) (ev_eqB (b := true) (ev_isD (d := .non) (b := false) rfl (ev_var rfl) ev_c (by decide +kernel)) (ev_isD (d := .non) (b := false) rfl (ev_var rfl) ev_c (by decide +kernel)))) fun H3 e3 => k.go ((e1.trans e2).trans e3)
      | int i =>
        cases (show v1 = .int i from h1)
        cases (show v2 = .int i from h2)
        refine q_no (et_B (ev_isTL (d := .int i) rfl (ev_var rfl) ka)) fun H1 e1 => ?_
        refine q_no (et_or (a := false) (b := false) (et_test (ev_isN (ev_var rfl) rfl)) fun _ => et_B (ev_isi (ev_var rfl) ev_c (fun _ _ => ty_int) k_int_str)) fun H2 e2 => ?_
        exact s_ret (ev_and2 (ev_isi (ev_var rfl) ev_c (fun _ _ => ty_int) k_int_int) (ev_and2 (ev_eqB (b := true) (ev_isi (ev_var rfl) ev_c (fun _ _ => ty_int) k_int_bool) (ev_isi (ev_var rfl) ev_c (fun _ _ => ty_int) k_int_bool)) (ev_eqD (d := .int i) rfl rfl (ev_var rfl) (ev_var rfl) (can_of (.int i) trivial) (by rw [toP, PyData.depth]; decide) (by rw [toP, PyData.eqv]; simp)))) fun H3 e3 => k.go ((e1.trans e2).trans e3)
      | bl b =>
        cases (show v1 = .bl b from h1)
        cases (show v2 = .bl b from h2)
        refine q_no (et_B (ev_isTL (d := .bl b) rfl (ev_var rfl) ka)) fun H1 e1 => ?_
        refine q_no (et_or (a := false) (b := false) (et_test (ev_isN (ev_var rfl) rfl)) fun _ => et_B (ev_isi (ev_var rfl) ev_c (fun _ _ => ty_bl) k_bool_str)) fun H2 e2 => ?_
        exact s_ret (ev_and2 (ev_isi (ev_var rfl) ev_c (fun _ _ => ty_bl) k_bool_int) (ev_and2 (ev_eqB (b := true) (ev_isi (ev_var rfl) ev_c (fun _ _ => ty_bl) k_bool_bool) (ev_isi (ev_var rfl) ev_c (fun _ _ => ty_bl) k_bool_bool)) (ev_eqD (d := .bl b) rfl rfl (ev_var rfl) (ev_var rfl) (can_of (.bl b) trivial) (by rw [toP, PyData.depth]; decide) (by rw [toP, PyData.eqv]; simp)))) fun H3 e3 => k.go ((e1.trans e2).trans e3)
end
/-! ### how deep a program's data are -/
theorem dpts_le {k : Nat} : ∀ {ds : List Dt}, (∀ d ∈ ds, dpt d ≤ k) → dpts ds ≤ k
  | [], _ => Nat.zero_le _
  | d :: ds, h => by
    have h1 := h d List.mem_cons_self
    have h2 := dpts_le (ds := ds) fun e he => h e (List.mem_cons_of_mem _ he)
    rw [dpts]
    omega
theorem dtWs_of : ∀ {ds : List Dt}, (∀ d ∈ ds, dtW d) → dtWs ds
  | [], _ => trivial
  | d :: ds, h => ⟨h d List.mem_cons_self, dtWs_of fun e he => h e (List.mem_cons_of_mem _ he)⟩
theorem dtAs_of : ∀ {ds : List Dt}, (∀ d ∈ ds, dtA d) → dtAs ds
  | [], _ => trivial
  | d :: ds, h => ⟨h d List.mem_cons_self, dtAs_of fun e he => h e (List.mem_cons_of_mem _ he)⟩
theorem dpt_S : ∀ s : Sm, dpt (eS s) ≤ deep s ∧ dtW (eS s)
  | .num i => ⟨Nat.le_refl _, trivial⟩
  | .nam x => ⟨Nat.le_refl _, trivial⟩
  | .bin p a b => by
    have h1 := dpt_S a
    have h2 := dpt_S b
    have hd : deep (.bin p a b) = 1 + max (deep a) (deep b) := rfl
    refine ⟨?_, by show 3 ≤ 1000; decide, trivial, h1.2, h2.2, trivial⟩
    rw [eS, dpt, dpts, dpts, dpts, dpts, hd]
    have : dpt (.str (sgn p)) = 0 := rfl
    omega
theorem dpt_T {names : List Str} {s : Sm} {z : Bool} (h : okS names s) : dpt (eT s z) ≤ 7 ∧ dtW (eT s z) := by
  have h1 := dpt_S s
  have h2 := h.2.1
  refine ⟨?_, by show 2 ≤ 1000; decide, h1.2, trivial, trivial⟩
  rw [eT, dpt, dpts, dpts, dpts]
  have : dpt (.bl z) = 0 := rfl
  omega
mutual
theorem dpt_P {names done : List Str} : ∀ (p : Pt) (d : Nat), okP names done d p → d ≤ 6 → szP p ≤ 900 → dpt (eP p) + 2 * d ≤ 20 ∧ dtW (eP p)
  | .letP x s, d, h, h6, hz => by
    rw [okP] at h
    have h1 := dpt_S s
    have h2 := h.2.2.1
    rw [eP]
    refine ⟨?_, by show 3 ≤ 1000; decide, trivial, trivial, h1.2, trivial⟩
    rw [dpt, dpts, dpts, dpts, dpts, show dpt (.str "let") = 0 from rfl, show dpt (.str x) = 0 from rfl]
    omega
  | .say s, d, h, h6, hz => by
    rw [okP] at h
    have h1 := dpt_S s
    have h2 := h.2.1
    rw [eP]
    refine ⟨?_, by show 2 ≤ 1000; decide, trivial, h1.2, trivial⟩
    rw [dpt, dpts, dpts, dpts, show dpt (.str "say") = 0 from rfl]
    omega
  | .ask x, d, h, h6, hz => by
    rw [eP]
    refine ⟨?_, by show 2 ≤ 1000; decide, trivial, trivial, trivial⟩
    rw [dpt, dpts, dpts, dpts, show dpt (.str "ask") = 0 from rfl, show dpt (.str x) = 0 from rfl]
    omega
  | .doP x, d, h, h6, hz => by
    rw [eP]
    refine ⟨?_, by show 2 ≤ 1000; decide, trivial, trivial, trivial⟩
    rw [dpt, dpts, dpts, dpts, show dpt (.str "do") = 0 from rfl, show dpt (.str x) = 0 from rfl]
    omega
  | .stop, d, h, h6, hz => by
    rw [eP]
    refine ⟨?_, by show 1 ≤ 1000; decide, trivial, trivial⟩
    rw [dpt, dpts, dpts, show dpt (.str "stop") = 0 from rfl]
    omega
  | .whl s z b, d, h, h6, hz => by
    rw [okP] at h
    rw [szP] at hz
    have h1 := dpt_T (z := z) h.1
    have h2 := dpt_B b (d + 1) h.2.2 (by omega) (by omega)
    rw [eP]
    refine ⟨?_, by show 3 ≤ 1000; decide, trivial, h1.2, h2.2, trivial⟩
    have h3 := h1.1
    have h4 := h2.1
    unfold eT at h3
    unfold eB at h4
    rw [dpt, dpts, dpts, dpts, dpts, show dpt (.str "while") = 0 from rfl]
    omega
  | .rep n b, d, h, h6, hz => by
    rw [okP] at h
    rw [szP] at hz
    have h2 := dpt_B b (d + 1) h.2.2 (by omega) (by omega)
    rw [eP]
    refine ⟨?_, by show 3 ≤ 1000; decide, trivial, trivial, h2.2, trivial⟩
    have h4 := h2.1
    unfold eB at h4
    rw [dpt, dpts, dpts, dpts, dpts, show dpt (.str "repeat") = 0 from rfl, show dpt (.int n) = 0 from rfl]
    omega
  | .ifP s z b c, d, h, h6, hz => by
    rw [okP] at h
    rw [szP] at hz
    have h1 := dpt_T (z := z) h.1
    have h2 := dpt_B b (d + 1) h.2.2.1 (by omega) (by omega)
    have h5 := dpt_B c (d + 1) h.2.2.2 (by omega) (by omega)
    rw [eP]
    refine ⟨?_, by show 4 ≤ 1000; decide, trivial, h1.2, h2.2, h5.2, trivial⟩
    have h3 := h1.1
    have h4 := h2.1
    have h7 := h5.1
    unfold eT at h3
    unfold eB at h4 h7
    rw [dpt, dpts, dpts, dpts, dpts, dpts, show dpt (.str "if") = 0 from rfl]
    omega
theorem dpt_B {names done : List Str} : ∀ (b : List Pt) (d : Nat), okB names done d b → d ≤ 6 → szB b ≤ 900 → dpt (eB b) + 2 * d ≤ 21 ∧ dtW (eB b)
  | [], d, h, h6, hz => by
    refine ⟨?_, by show 0 ≤ 1000; decide, trivial⟩
    rw [eB, ePs, dpt, dpts]
    omega
  | p :: r, d, h, h6, hz => by
    rw [okB] at h
    have hl := szB_len (p :: r)
    rw [szB] at hz
    have h1 := dpt_P p d h.1 h6 (by omega)
    have h2 := dpt_B r d h.2 h6 (by omega)
    have h3 := h2.1
    have h4 := h2.2
    unfold eB at h3 h4
    rw [eB, ePs]
    refine ⟨?_, ?_, h1.2, h4.2⟩
    · rw [dpt] at h3 ⊢
      rw [dpts]
      omega
    · rw [List.length_cons, ePs_map, List.length_map]
      rw [szB, List.length_cons] at hl
      omega
end
theorem dpt_G {p : Pg} (h : okPg p) : dpt (eG p) ≤ 24 ∧ dtW (eG p) ∧ dtA (eG p) := by
  have hsz := h.sz
  have hb := dpt_B p.block 1 h.bl (by decide) (by omega)
  have hpn := okProcs_names h.pr
  have hq : ∀ q ∈ p.procs, dpt (eQ q) ≤ 21 ∧ dtW (eQ q) ∧ dtA (eQ q) := fun q hq => by
    obtain ⟨i, hi⟩ := List.getElem?_of_mem hq
    obtain ⟨g1, g2, g3⟩ := okProcs_get h.pr hi
    rw [List.nil_append] at g3
    have hz := szProcs_le (ps := p.procs) (i + 1)
    rw [szProcs_take hi] at hz
    have h1 := dpt_B q.2 1 g3 (by decide) (by omega)
    have hdn : ∀ x ∈ (p.procs.take i).map (·.1), isName x = true := fun y hy => hpn y (by
      obtain ⟨z, hz, ez⟩ := List.mem_map.mp hy
      exact List.mem_map.mpr ⟨z, List.mem_of_mem_take hz, ez⟩)
    refine ⟨?_, ⟨by show 2 ≤ 1000; decide, trivial, h1.2, trivial⟩, asc_name g1, dtA_B h.nm hdn q.2 1 g3, trivial⟩
    rw [eQ, dpt, dpts, dpts, dpts, show dpt (.str q.1) = 0 from rfl]
    omega
  have hn : dpt (eN p.names) ≤ 1 ∧ dtW (eN p.names) ∧ dtA (eN p.names) := by
    have h5 := h.n5
    refine ⟨?_, ⟨by rw [List.length_map]; omega, dtWs_of fun d hd => ?_⟩, dtAs_of fun d hd => ?_⟩
    · rw [eN, dpt]
      have := dpts_le (k := 0) (ds := p.names.map Dt.str) fun d hd => by
        obtain ⟨x, hx, rfl⟩ := List.mem_map.mp hd
        exact Nat.le_refl _
      omega
    · obtain ⟨x, hx, rfl⟩ := List.mem_map.mp hd
      trivial
    · obtain ⟨x, hx, rfl⟩ := List.mem_map.mp hd
      exact asc_name (h.nm x hx)
  have hps : dpt (.tup (p.procs.map eQ)) ≤ 22 ∧ dtW (.tup (p.procs.map eQ)) ∧ dtA (.tup (p.procs.map eQ)) := by
    have h4 := h.pl
    refine ⟨?_, ⟨by rw [List.length_map]; omega, dtWs_of fun d hd => ?_⟩, dtAs_of fun d hd => ?_⟩
    · rw [dpt]
      have := dpts_le (k := 21) (ds := p.procs.map eQ) fun d hd => by
        obtain ⟨q, hq', rfl⟩ := List.mem_map.mp hd
        exact (hq q hq').1
      omega
    · obtain ⟨q, hq', rfl⟩ := List.mem_map.mp hd
      exact (hq q hq').2.1
    · obtain ⟨q, hq', rfl⟩ := List.mem_map.mp hd
      exact (hq q hq').2.2
  refine ⟨?_, ⟨by show 3 ≤ 1000; decide, hn.2.1, hps.2.1, hb.2, trivial⟩, hn.2.2, hps.2.2, dtA_B h.nm hpn p.block 1 h.bl, trivial⟩
  rw [eG, dpt, dpts, dpts, dpts, dpts]
  have := hn.1
  have := hps.1
  have := hb.1
  omega
theorem asc_app {a b : Str} (ha : asc a) (hb : asc b) : asc (a ++ b) := fun c hc => by
  rw [tl_append] at hc
  rcases List.mem_append.mp hc with h | h
  · exact ha c h
  · exact hb c h
theorem asc_join {S : Str} (hS : asc S) : ∀ {l : List Str}, (∀ x ∈ l, asc x) → asc (Str.join S l) := fun {l} h c hc => by
  rw [tl_join] at hc
  have key : ∀ ps : List (List Nat), (∀ p ∈ ps, ∀ c ∈ p, c < 128) → ∀ c ∈ joinL (tl S) ps, c < 128 := by
    intro ps
    induction ps with
    | nil => intro _ c hc; cases hc
    | cons p r ih =>
      intro hp c hc
      cases r with
      | nil => exact hp p List.mem_cons_self c hc
      | cons q r =>
        have hc' : c ∈ p ++ (tl S ++ joinL (tl S) (q :: r)) := hc
        rcases List.mem_append.mp hc' with h | h
        · exact hp p List.mem_cons_self c h
        · rcases List.mem_append.mp h with h | h
          · exact hS c h
          · exact ih (fun x hx => hp x (List.mem_cons_of_mem _ hx)) c h
  refine key _ (fun p hp c hc => ?_) c hc
  obtain ⟨x, hx, rfl⟩ := List.mem_map.mp hp
  exact h x hx c hc
theorem asc_text {p : Pg} (h : okPg p) : asc (textOf p) := asc_join (asc_lit (by decide +kernel)) fun x hx => by
  obtain ⟨ws, hw, rfl⟩ := List.mem_map.mp hx
  exact asc_join (asc_lit (by decide +kernel)) fun w hw2 => ((sl_prog h ws hw).2 w hw2).2
end RS
end
section
set_option Elab.async false
set_option linter.all false
set_option maxRecDepth 100000
set_option maxHeartbeats 4000000
/-! RT: the law's own rows, by computation. -/
namespace RS
open PySem L2 TL Evl
def oneS : Str := "names a b\n"
def rw0 : List (Str × Option (Int × Int)) := [(("" : Str), some (2, 1)), (("names" : Str), some (1, 2)), (("names a a" : Str), some (1, 3)), (("names A" : Str), some (1, 2)), (("names a b c d e f" : Str), some (1, 7))]
def rw1 : List (Str × Option (Int × Int)) := [(("names end" : Str), some (1, 2)), (("say 1" : Str), some (1, 1)), ((oneS ++ ("names c" : Str)), some (2, 1))]
def rw2 : List (Str × Option (Int × Int)) := [((oneS ++ ("foo" : Str)), some (2, 1)), ((oneS ++ ("say" : Str)), some (2, 2)), ((oneS ++ ("say c" : Str)), some (2, 2)), ((oneS ++ ("say a +" : Str)), some (2, 4))]
def rw3 : List (Str × Option (Int × Int)) := [((oneS ++ ("say a a" : Str)), some (2, 3)), ((oneS ++ ("say 1001" : Str)), some (2, 2)), ((oneS ++ ("say 01" : Str)), some (2, 2))]
def rw4 : List (Str × Option (Int × Int)) := [((oneS ++ ("say ( a" : Str)), some (2, 4)), ((oneS ++ ("say ( a )" : Str)), some (2, 4)), ((oneS ++ ("say a - ( b + 1" : Str)), some (2, 8))]
def rw5 : List (Str × Option (Int × Int)) := [((oneS ++ ("say ) a" : Str)), some (2, 2)), ((oneS ++ ("say a )" : Str)), some (2, 3)), ((oneS ++ ("let" : Str)), some (2, 2))]
def rw6 : List (Str × Option (Int × Int)) := [((oneS ++ ("let c = 1" : Str)), some (2, 2)), ((oneS ++ ("let a 1" : Str)), some (2, 3)), ((oneS ++ ("let a =" : Str)), some (2, 4))]
def rw7 : List (Str × Option (Int × Int)) := [((oneS ++ ("ask" : Str)), some (2, 2)), ((oneS ++ ("ask a b" : Str)), some (2, 3)), ((oneS ++ ("do f" : Str)), some (2, 2)), ((oneS ++ ("stop 1" : Str)), some (2, 2))]
def rw8 : List (Str × Option (Int × Int)) := [((oneS ++ ("if a" : Str)), some (2, 3)), ((oneS ++ ("if a =" : Str)), some (2, 4)), ((oneS ++ ("if a = 1" : Str)), some (2, 4))]
def rw9 : List (Str × Option (Int × Int)) := [((oneS ++ ("if a = 0 0" : Str)), some (2, 5)), ((oneS ++ ("if a = 0" : Str)), some (3, 1)), ((oneS ++ ("else" : Str)), some (2, 1))]
def rw10 : List (Str × Option (Int × Int)) := [((oneS ++ ("end" : Str)), some (2, 1))]
def rw11 : List (Str × Option (Int × Int)) := [((oneS ++ ("if a = 0\nelse\nelse" : Str)), some (4, 1)), ((oneS ++ ("while a = 0\nelse" : Str)), some (3, 1))]
def rw12 : List (Str × Option (Int × Int)) := [((oneS ++ ("repeat 7\nend" : Str)), some (2, 2)), ((oneS ++ ("repeat\nend" : Str)), some (2, 2)), ((oneS ++ ("repeat 2 2" : Str)), some (2, 3))]
def rw13 : List (Str × Option (Int × Int)) := [((oneS ++ ("to f\nend\nto f\nend" : Str)), some (4, 2)), ((oneS ++ ("stop\nto f\nend" : Str)), some (3, 1))]
def rw14 : List (Str × Option (Int × Int)) := [((oneS ++ ("to f\nto g" : Str)), some (3, 1)), ((oneS ++ ("to f\ndo f\nend" : Str)), some (3, 2)), ((oneS ++ ("to if\nend" : Str)), some (2, 2))]
def rw15 : List (Str × Option (Int × Int)) := [((oneS ++ (repS ("stop\n" : Str) (Int.toNat 60))), none), ((oneS ++ (repS ("stop\n" : Str) (Int.toNat 61))), some (62, 1))]
def rw16 : List (Str × Option (Int × Int)) := [((oneS ++ (repS ("repeat 1\n" : Str) (Int.toNat 6))), some (7, 1)), (((oneS ++ ("to f\n" : Str)) ++ (repS ("repeat 1\n" : Str) (Int.toNat 6))), some (8, 1))]
def rw17 : List (Str × Option (Int × Int)) := [((oneS ++ ("to f" : Str)), some (3, 1))]
def rw18 : List (Str × Option (Int × Int)) := [(((oneS ++ ("say " : Str)) ++ (Str.join (" + " : Str) (List.replicate (Int.toNat 7) ("1" : Str)))), none)]
def rw19 : List (Str × Option (Int × Int)) := [(((oneS ++ ("say " : Str)) ++ (Str.join (" + " : Str) (List.replicate (Int.toNat 8) ("1" : Str)))), some (2, 15))]
def rw20 : List (Str × Option (Int × Int)) := [(((((oneS ++ ("say " : Str)) ++ (repS ("( a + " : Str) (Int.toNat 6))) ++ ("b" : Str)) ++ (repS (" )" : Str) (Int.toNat 6))), none)]
def rw21 : List (Str × Option (Int × Int)) := [(((((oneS ++ ("say " : Str)) ++ (repS ("( 1 + " : Str) (Int.toNat 7))) ++ ("b" : Str)) ++ (repS (" )" : Str) (Int.toNat 7))), some (2, 20))]
def rw22 : List (Str × Option (Int × Int)) := [((oneS ++ ("say ( a + 1 ) - ( ( b - 2 ) )" : Str)), none), ((oneS ++ ("say a - -3" : Str)), none)]
def rw23 : List (Str × Option (Int × Int)) := [((oneS ++ ("to a\nend\ndo a" : Str)), none)]
def rws0 : List (Str × Option (Int × Int)) := rw0
def rws1 : List (Str × Option (Int × Int)) := rws0 ++ rw1
def rws2 : List (Str × Option (Int × Int)) := rws1 ++ rw2
def rws3 : List (Str × Option (Int × Int)) := rws2 ++ rw3
def rws4 : List (Str × Option (Int × Int)) := rws3 ++ rw4
def rws5 : List (Str × Option (Int × Int)) := rws4 ++ rw5
def rws6 : List (Str × Option (Int × Int)) := rws5 ++ rw6
def rws7 : List (Str × Option (Int × Int)) := rws6 ++ rw7
def rws8 : List (Str × Option (Int × Int)) := rws7 ++ rw8
def rws9 : List (Str × Option (Int × Int)) := rws8 ++ rw9
def rws10 : List (Str × Option (Int × Int)) := rws9 ++ rw10
def rws11 : List (Str × Option (Int × Int)) := rws10 ++ rw11
def rws12 : List (Str × Option (Int × Int)) := rws11 ++ rw12
def rws13 : List (Str × Option (Int × Int)) := rws12 ++ rw13
def rws14 : List (Str × Option (Int × Int)) := rws13 ++ rw14
def rws15 : List (Str × Option (Int × Int)) := rws14 ++ rw15
def rws16 : List (Str × Option (Int × Int)) := rws15 ++ rw16
def rws17 : List (Str × Option (Int × Int)) := rws16 ++ rw17
def rws18 : List (Str × Option (Int × Int)) := rws17 ++ rw18
def rws19 : List (Str × Option (Int × Int)) := rws18 ++ rw19
def rws20 : List (Str × Option (Int × Int)) := rws19 ++ rw20
def rws21 : List (Str × Option (Int × Int)) := rws20 ++ rw21
def rws22 : List (Str × Option (Int × Int)) := rws21 ++ rw22
def rws23 : List (Str × Option (Int × Int)) := rws22 ++ rw23

def toldI (z : Str) : Option (Int × Int) := match readT (tl z) with
  | .ok _ => none
  | .error e => some ((e.1 : Int), (e.2 : Int))
def okWb (w : Str) : Bool := (tl w).all (fun c => decide (c < 128)) && decide (w.length ≤ 40000)
def okTb (z : Str) : Bool := decide (z.length ≤ 1000000) && ((cut 10 (tl z)).all fun l => decide ((wordsOf l).length ≤ 50000) && (wordsOf l).all okWb) && decide ((fl (tl z)).length ≤ 20000)
theorem okT_of {z : Str} (h : okTb z = true) : okT z := by
  unfold okTb at h
  rw [Bool.and_eq_true, Bool.and_eq_true] at h
  refine ⟨of_decide_eq_true h.1.1, fun l hl => ?_, of_decide_eq_true h.2⟩
  have h2 := List.all_eq_true.mp h.1.2 l hl
  rw [Bool.and_eq_true] at h2
  refine ⟨of_decide_eq_true h2.1, fun w hw => ?_⟩
  have h3 := List.all_eq_true.mp h2.2 w hw
  unfold okWb at h3
  rw [Bool.and_eq_true] at h3
  exact ⟨fun c hc => of_decide_eq_true (List.all_eq_true.mp h3.1 c hc), of_decide_eq_true h3.2⟩
def rowB (r : Str × Option (Int × Int)) : Bool := okTb r.1 && decide (toldI r.1 = r.2) && (tl r.1).all (fun c => decide (c < 128))
theorem rows_ok : rws23.all rowB = true := by decide +kernel
theorem row_at {i : Nat} {r : Str × Option (Int × Int)} (h : rws23[i]? = some r) : okT r.1 ∧ toldI r.1 = r.2 := by
  have h1 := List.all_eq_true.mp rows_ok r (List.mem_of_getElem? h)
  unfold rowB at h1
  rw [Bool.and_eq_true, Bool.and_eq_true] at h1
  exact ⟨okT_of h1.1.1, of_decide_eq_true h1.1.2⟩
end RS
end
section
set_option Elab.async false
set_option linter.all false
set_option maxRecDepth 100000
set_option maxHeartbeats 4000000
/-! W25: the rules that law's own text needs. -/
namespace RS
open PySem PySem.Spec PyProof.Rows L2
section
variable {X : Cx} {k j : Nat} {x : Str} {sp : Sp} {dvs : List V} {p pos p2 : Pos} {e f : Expr} {es : List Expr} {tf : TE} {t : TA} {W : WX}
theorem pe_f0R (c : CalG (CXX X.prog X.w) X.prog X.w X.K X.mg X.base k x sp dvs) (hr : Room j X.A) (hk : k ≤ j) (hg : Gl X x) (ha : PA X (e :: es) t)
    (hdb : (x == ("__debug__" : Str)) = false := by decide) (he : starEach (e :: es) X.env = (false, eval e X.env) :: starEach es X.env := by rfl) (hpl : (backTo pos (starEach es X.env)).any (·.1) = false := by rfl) :
    PE X (.Call (.Name x p) (e :: es) [] pos) (tCall sp dvs E0 t) := by
  refine pe_fX (E := E0) c hr hk (fun pins σ H s u s' I h => ?_) hg ha hdb he hpl
  obtain ⟨_, _, _, _, _, _, _, _, _, _, _, _, z⟩ := h
  exact z.elim
theorem pe_fS (c : CalG (CXX X.prog X.w) X.prog X.w X.K X.mg X.base k x sp []) (hr : Room j X.A) (hk : k ≤ j) (tk : Takes X W) (hg : Gl X x) (ha : PA X (e :: es) t)
    (hdb : (x == ("__debug__" : Str)) = false := by decide) (he : starEach (e :: es) X.env = (false, eval e X.env) :: starEach es X.env := by rfl) (hpl : (backTo pos (starEach es X.env)).any (·.1) = false := by rfl) :
    PE X (.Call (.Name x p) (e :: es) [] pos) (tCallS sp (WE W) t) := by
  obtain ⟨f, fd, ps, ds, F, hm, kp, b, d⟩ := c.ex
  cases d
  exact pe_callS F (hr.mono hk) hg hm kp b (fun σ => passAt tk σ) ha hdb he hpl
theorem pe_opCT {op : Operator} {r : R2} {z : Str} {jj : Nat} (ho : OpR X (binaryOp op) r) (hb : PET X f tf) : PE X (.BinOp (.Constant (.str z) jj p2) op f pos) (tOp r (tC (.str z)) tf) := by
  refine ⟨fun pins s σ H Q I h => ?_⟩
  refine wpAny_BinOp (Calls.Constant_str ?_)
  exact thn (hb pins _ σ H _ (by show 1 ≤ s.toks + 1; omega) (I.tok _) h) fun u s2 ⟨y, H2, I2, r2, q2⟩ => ho pins s2 σ H2 (.str z) y _ u Q I2 ⟨_, rfl⟩ r2 q2
theorem takes_no : Takes X (fun _ _ _ _ => False) := fun u s' ⟨_, _, _, _, _, _, _, _, _, _, _, _, _, _, _, _, w⟩ => w.elim
theorem nm_E {K : PySem.W.Frag} {mg : Str → Option Value} {w : World} {a : Ads} (T : Txt K mg w a) : mg "ShelfError" = some (.ref a.cE) := by
  obtain ⟨u, hm, hu⟩ := T.c_ShelfError
  obtain rfl : u = Value.ref a.cE := hu
  exact hm
end
end RS
namespace RS
open PySem PySem.Spec PySem.Calls PyProof.Rows L2
/-- isinstance(x, its very class) -/
theorem same_isinstance {prog : Program} {w : World} {A : Around} {E : Value → Shared → Prop} {Q : Value → Shared → Prop} {s : Shared} {x : Addr} {t : Value} (LT : ∀ M : Model, PySem.W.Looks M s.heap (typeOf (.ref x)) t) (h : ∀ tk, Q (.bool true) { s with toks := tk }) :
    wpAny (model prog w) A (call (.builtin "isinstance") [.ref x, t]) Q E s :=
  call_isinstance (S := fun _ R s' => (∀ M : Model, PySem.W.Looks M s'.heap (typeOf (.ref x)) t) ∧ ∀ tk, R (.ok (.ret (.bool true))) { s' with toks := tk })
    (fun prog' w' A R s' hs => isinstance_outer (by
      obtain ⟨L, hq⟩ := hs
      obtain ⟨h0, g, d, tt, os⟩ := s'
      unfold Builtin.«isinstance.nested»
      refine wpAny_bind ((L _).at ?_)
      rw [if_pos (beq_self_eq_true t)]
      exact wpAny_bind (wpAny_rule (wpAny_pure (hq tt)))) (fun z => nomatch z)) ⟨LT, h⟩
def rIsX (a : Addr) (cls : Value) : List V → Hp → VK → Prop := fun xs H Q => ∃ c : V, xs = [.ref a, c] ∧ (∀ u, RelV c u → u = cls) ∧ Q (.bl true) H
theorem call_isX {X : Cx} {a : Addr} {cls : Value} {d : Option Addr} {oe : Obj} {pn : List (Addr × Obj)} (hz : Zc cls d oe) : CallR (X.suite a ((a, oe) :: pn)) (.builtin "isinstance") (rIsX a cls) := by
  intro pins s σ H xs us Q I r h
  obtain ⟨c, rfl, hcv, q⟩ := h
  cases r with
  | cons rx rr =>
    cases rr with
    | cons rt rr =>
      cases rr
      cases rx
      have ec := hcv _ rt
      subst ec
      obtain ⟨hget, _⟩ := I.pin (a, oe) (List.mem_append.mpr (.inl List.mem_cons_self))
      exact same_isinstance (fun M A Q E s k q => wpAny_typeOf_ref (k _ _ hget) (by rw [hz.1]; exact q)) fun tk => ⟨.bl true, H, I.kept (t' := tk) fun _ _ z => z, rfl, q⟩
end RS
end
section
set_option Elab.async false
set_option linter.all false
set_option maxRecDepth 100000
set_option maxHeartbeats 4000000
/-! W26: rules for law's body. -/
namespace RS
open PySem PySem.Spec PyProof.Rows L2
def tLstF (K : PySem.W.Frag) (t : TA) : TE := fun σ H Q => t σ H fun xs H1 => xs.length ≤ sizeLine ∧ ∀ p, H1 p = none → K.lookup p = none → Q (.ref p) (upd H1 p (.lst xs))
/-- a new list lies at no address of the written part -/
theorem pe_lstF {X : Cx} {K : PySem.W.Frag} {es : List Expr} {t : TA} {pos : Pos} (hK : X.K = K) (h : PA X es t) : PE X (.List es pos) (tLstF K t) := by
  subst hK
  refine ⟨fun pins s σ H Q I hq => wpAny_List_spliced (thn (h.run pos pins s σ H _ I hq) fun us s1 hh => ?_)⟩
  obtain ⟨xs, H1, I1, r, z, q⟩ := hh
  have hn : X.K.lookup s1.heap.objs.size = none := by
    cases e : X.K.lookup s1.heap.objs.size with
    | none => rfl
    | some o => exact absurd (Heap.lt_size (I1.kIn _ _ e)) (Nat.lt_irrefl _)
  have hl : us.length ≤ sizeLine := by
    rw [← r.length]
    exact z
  exact ⟨hl, .ref s1.heap.objs.size, upd H1 s1.heap.objs.size (.lst xs), I1.laid (t' := s1.toks) (fun b u e => Heap.get?_push_of_some _ e) (Nat.le_refl _) (by exact ⟨z, us, 0, r, Heap.get?_push_size _ rfl⟩), rfl, q _ (I1.hok.fresh (Nat.le_refl _)) hn⟩
end RS
namespace RS
open PySem L2 TL Evl
section
variable {K : PySem.W.Frag} {σ : L2.St} {H : Hp} {te ta tb to : TE} {t : TA} {D : Ends} {tz tu : TS} {g : TG} {d : Dt} {ds : List Dt} {v : V}
def EvX1 (te : TE) (σ : L2.St) (H : Hp) (d : Dt) : Prop := ∀ H1, Ex H H1 → ∀ Q : VK, (∀ v H2, Ex H1 H2 → Td H2 d v → Q v H2) → te σ H1 Q
def EvTA (t : TA) (σ : L2.St) (H : Hp) (ds : List Dt) : Prop := ∀ H1, Ex H H1 → ∀ Q : List V → Hp → Prop, (∀ xs H2, Ex H1 H2 → TdL H2 ds xs → Q xs H2) → t σ H1 Q
theorem eta_nil : EvTA tNil σ H [] := fun H1 _ Q q => q [] H1 (Ex.refl H1) rfl
theorem eta_cons (h : EvX1 te σ H d) (r : EvTA t σ H ds) : EvTA (tCons te t) σ H (d :: ds) := fun H1 e Q q => h H1 e _ fun v H2 e2 hd => r H2 (e.trans e2) _ fun xs H3 e3 hx => q _ H3 (e2.trans e3) ⟨v, xs, rfl, hd.ex e3, hx⟩
theorem dx_i {i : Int} : EvX1 (tC (.int i)) σ H (.int i) := fun H1 _ Q q => q _ H1 (Ex.refl H1) rfl
theorem dx_n : EvX1 (tC .non) σ H .non := fun H1 _ Q q => q _ H1 (Ex.refl H1) rfl
theorem dx_of (h : Ev te σ H v) (ht : Td H d v) : EvX1 te σ H d := fun H1 e Q q => h H1 e _ fun H2 e2 => q v H2 e2 (ht.ex (e.trans e2))
theorem dx_str {z : Str} (h : Ev te σ H (.str z)) : EvX1 te σ H (.str z) := dx_of h rfl
theorem dx_tup (h : EvTA t σ H ds) (hl : ds.length ≤ 1000) : EvX1 (tTup t) σ H (.tup ds) := fun H1 e Q q => h H1 e _ fun xs H2 e2 hx =>
  ⟨sz_of (by rw [hx.len]; omega), fun p hp => q _ _ (e2.trans (Ex.new hp)) ⟨p, xs, rfl, upd_same, hx.ex (Ex.new hp)⟩⟩
def eO : Option (Int × Int) → List Dt
  | none => [.non, .non]
  | some (l, w) => [.int l, .int w]
def eR (r : Str × Option (Int × Int)) : Dt := .tup (.str r.1 :: eO r.2)
theorem q_rows0 {rs : List (Str × Option (Int × Int))} {i : Nat} (hr : EvTA t σ H (rs.map eR)) (hl : rs.length ≤ 1000) (k : ∀ p xs H1, Ex H H1 → H1 p = some (.lst xs) → TdL H1 (rs.map eR) xs → tz D (σ.set i (some (.ref p))) H1) : tSeq (tAsg (tLst t) (gName i)) tz D σ H :=
  hr H (Ex.refl H) _ fun xs H1 e hx => ⟨sz_of (by rw [hx.len, List.length_map]; omega), fun p hp => k p xs _ (e.trans (Ex.new hp)) upd_same (hx.ex (Ex.new hp))⟩
theorem q_rows {R rs : List (Str × Option (Int × Int))} {i j : Nat} {p : Addr} {xs : List V} (hv : σ[j]? = some (some (.ref p))) (hp : H p = some (.lst xs)) (hx : TdL H (R.map eR) xs) (hr : EvTA t σ H (rs.map eR)) (hl : R.length + rs.length ≤ 1000)
    (k : ∀ p xs H1, Ex H H1 → H1 p = some (.lst xs) → TdL H1 ((R ++ rs).map eR) xs → tz D (σ.set i (some (.ref p))) H1) : tSeq (tAsg (tOp rCat (tVar j) (tLst t)) (gName i)) tz D σ H :=
  ⟨_, hv, hr H (Ex.refl H) _ fun ys H1 e hy => by
    have l1 : xs.length = R.length := by rw [hx.len, List.length_map]
    have l2 : ys.length = rs.length := by rw [hy.len, List.length_map]
    refine ⟨sz_of (by omega), fun q hq => ?_⟩
    have e2 := e.trans (Ex.new (o := HO.lst ys) hq)
    refine ⟨p, q, xs, ys, rfl, rfl, e2 _ _ hp, upd_same, sz_of (by omega), fun r hr' => ?_⟩
    have e3 := e2.trans (Ex.new (o := HO.lst (xs ++ ys)) hr')
    refine k r _ _ e3 upd_same ?_
    rw [List.map_append]
    exact (hx.ex e3).append ((hy.ex (Ex.new hq)).ex (Ex.new hr'))⟩
theorem ev_mulS {z : Str} {n : Int} (h1 : 2 ≤ n) (h2 : n ≤ 100) (h3 : 1 ≤ z.length ∧ z.length ≤ 100) :
    Ev (tOp (fun x y H Q => ∃ (z : Str) (n : Int), x = .str z ∧ y = .int n ∧ 2 ≤ n ∧ n ≤ 100 ∧ 1 ≤ z.length ∧ z.length ≤ 100 ∧ Q (.str (repS z n.toNat)) H) (tC (.str z)) (tC (.int n))) σ H (.str (repS z n.toNat)) := fun H1 _ Q q => ⟨z, n, rfl, rfl, h1, h2, h3.1, h3.2, q H1 (Ex.refl H1)⟩
theorem flat_rep {x : Str} : ∀ n : Nat, (List.replicate n [V.str x]).flatten = (List.replicate n x).map V.str
  | 0 => rfl
  | n + 1 => by
    rw [List.replicate_succ, List.replicate_succ, List.flatten_cons, flat_rep n]
    rfl
theorem el_rep1 {x : Str} {n : Int} (h : 0 ≤ n ∧ n ≤ 1000) : EvL (tOp rRep (tLst (tCons (tC (.str x)) tNil)) (tC (.int n))) σ H ((List.replicate n.toNat x).map V.str) := fun H1 _ Q q =>
  ⟨sz_of (by show 1 ≤ 100000; decide), fun p hp => ⟨p, n, [.str x], rfl, rfl, upd_same, by omega, by omega, sz_of (by rw [List.length_singleton]; omega), fun r hr => by
    rw [flat_rep]
    exact q r _ (fresh_back (Ex.new hp) hr) ((Ex.new hp).trans (Ex.new hr)) upd_same⟩⟩
theorem ev_repl {x y z : Str} (h : Ev to σ H (.str x)) (hl : x.length + (x.length + 1) * z.length ≤ 16777216) : Ev (CwR.tReplC to y z) σ H (.str (Txt.replace x y z)) := fun H1 e Q q => h H1 e _ fun H2 e2 => ⟨x, rfl, hl, q H2 e2⟩
theorem ev_alike {n : Nat} (h1 : EvX1 ta σ H d) (h2 : EvX1 tb σ H d) (hA : dtA d) (hW : dtW d) (hd : dpt d < n) : Ev (tCall (spAlike n) [] E0 (tCons ta (tCons tb tNil))) σ H (.bl true) := fun H1 e Q q =>
  h1 H1 e _ fun v1 H2 e2 t1 => h2 H2 (e.trans e2) _ fun v2 H3 e3 t2 => ⟨v1, v2, d, rfl, t1.ex e3, t2, hA, hW, hd, fun H4 e4 => q H4 ((e2.trans e3).trans e4)⟩
theorem dx_read {CL CS : Addr} {z : Str} {p : Pg} (h : Ev to σ H (.str z)) (hz : okT z) (hr : readT (tl z) = .ok p) : EvX1 (tCall (spRead K CL CS) [] E0 (tCons to tNil)) σ H (eG p) := fun H1 e Q q => h H1 e _ fun H2 e2 => .inl ⟨z, rfl, hz, by
  rw [hr]
  exact fun v H' e3 ht => q v H' (e2.trans e3) ht⟩
theorem q_iter {R : V → Hp → Prop} (h : ∀ Q : VK, (∀ v H2, R v H2 → Q v H2) → te σ H Q) (k : ∀ v H2, R v H2 → tSeq (tFor (iList K (tC v)) g tu) tz D σ H2) : tSeq (tFor (iList K te) g tu) tz D σ H := h _ k
theorem g_three {i j m : Nat} {p : Addr} {x y z : V} {Q : L2.St → Hp → Prop} (hp : H p = some (.tup [x, y, z])) (k : Q (((σ.set i (some x)).set j (some y)).set m (some z)) H) : gTup K 3 (gCons (gName i) (gCons (gName j) (gCons (gName m) gNil))) (.ref p) σ H Q :=
  ⟨p, _, rfl, st_of hp, rfl, _, _, rfl, _, _, rfl, _, _, rfl, rfl, k⟩
end
/-! ### the texts of a program are fit to be read -/
theorem okWs_nil : okWs [] := ⟨Nat.zero_le _, fun _ h => nomatch h⟩
theorem okT_fl {p : Pg} (h : okPg p) {z : Str} (hl : z.length ≤ 1000000) (e : fl (tl z) = progL p) : okT z := by
  refine ⟨hl, fun l hm => ?_, by rw [e]; have := prog_len h; omega⟩
  by_cases hw : wordsOf l = []
  · rw [hw]
    exact okWs_nil
  · have hm2 : wordsOf l ∈ fl (tl z) := List.mem_filter.mpr ⟨List.mem_map.mpr ⟨l, hm, rfl⟩, by
      cases q : wordsOf l with
      | nil => exact absurd q hw
      | cons _ _ => rfl⟩
    rw [e] at hm2
    obtain ⟨h1, h2⟩ := sl_prog h _ hm2
    exact ⟨by omega, fun w hw => ⟨(h2 w hw).2, by have := (h2 w hw).1; omega⟩⟩
theorem fl_text {p : Pg} (h : okPg p) : fl (tl (textOf p)) = progL p := by
  obtain ⟨h1, h2⟩ := lines_back (S := [32]) (by decide) (fun ws hw => fw_join1 hw) (gl_prog h)
  rw [tl_text, fl_join1 h1 (by simpa using progL_ne p), h2]
theorem fl_wide {p : Pg} (h : okPg p) : fl (tl (wideText (textOf p))) = progL p := by
  obtain ⟨h1, h2⟩ := lines_back (S := [32, 32]) (by decide) (fun ws hw => fw_join2 hw) (gl_prog h)
  rw [tl_wide p h, fl_nl, fl_sp, fl_join2 h1 (by simpa using progL_ne p), h2]
theorem okT_text {p : Pg} (h : okPg p) : okT (textOf p) := okT_fl h (by have := text_len h; omega) (fl_text h)
theorem rp_len (c x y : Nat) : ∀ l : List Nat, (rp c [x, y] l).length ≤ 2 * l.length
  | [] => Nat.le_refl _
  | d :: l => by
    have h := rp_len c x y l
    have e : rp c [x, y] (d :: l) = (if d = c then [x, y] else [d]) ++ rp c [x, y] l := rfl
    rw [e, List.length_append, List.length_cons]
    split
    · rw [List.length_cons, List.length_singleton]
      omega
    · rw [List.length_singleton]
      omega
theorem repl_len {x y z : Str} {c a b : Nat} (hy : y.cps.toList = [c]) (hz : z.cps.toList = [a, b]) (hne : 1 ≤ y.length) : (Txt.replace x y z).length ≤ 2 * x.length := by
  have e := StrLaws.replace_list (x := x) (y := y) (z := z) hne
  rw [hy, hz, replL_one] at e
  have h := rp_len c a b (tl x)
  rw [len_tl, len_tl]
  exact Nat.le_trans (Nat.le_of_eq (congrArg List.length e)) h
theorem mid_len {p : Pg} (h : okPg p) : (Txt.replace (textOf p) " " "  ").length ≤ 400000 := by
  have h1 := repl_len (x := textOf p) (y := " ") (z := "  ") (c := 32) (a := 32) (b := 32) (by decide +kernel) (by decide +kernel) (by decide +kernel)
  have := text_len h
  omega
theorem mid2_len {p : Pg} (h : okPg p) : (Txt.replace (Txt.replace (textOf p) " " "  ") "\n" "\n\n").length ≤ 800000 := by
  have h1 := repl_len (x := Txt.replace (textOf p) " " "  ") (y := "\n") (z := "\n\n") (c := 10) (a := 10) (b := 10) (by decide +kernel) (by decide +kernel) (by decide +kernel)
  have := mid_len h
  omega
theorem okT_wide {p : Pg} (h : okPg p) : okT (wideText (textOf p)) := okT_fl h (by
  unfold wideText
  rw [len_app, len_app, show ("\n " : Str).length = 2 from by decide +kernel, show ("\n" : Str).length = 1 from by decide +kernel]
  have := mid2_len h
  omega) (fl_wide h)
end RS
end
section
set_option Elab.async false
set_option linter.all false
set_option maxRecDepth 100000
set_option maxHeartbeats 8000000
/-! W27: law. -/
namespace RS
open PySem L2 TL Evl
section
variable {K : PySem.W.Frag} {σ : L2.St} {H : Hp} {te ta tb to : TE} {t : TA} {tt : TT} {D : Ends} {tz tu : TS} {g : TG}
theorem q_asgF {i : Nat} {xs : List V} (h : EvA t σ H xs) (hl : xs.length ≤ 1000) (k : ∀ p H1, H p = none → K.lookup p = none → Ex H H1 → H1 p = some (.lst xs) → tz D (σ.set i (some (.ref p))) H1) : tSeq (tAsg (tLstF K t) (gName i)) tz D σ H :=
  h H (Ex.refl H) _ fun H1 e => ⟨sz_of (by omega), fun p hp hK => k p _ (fresh_back e hp) hK (e.trans (Ex.new hp)) upd_same⟩
theorem q_prog {S : Addr × List Int} {r : Addr} {i j : Nat} (hv : σ[j]? = some (some (.ref r))) (hR : RowS K S H r) (k : ∀ v p H', okPg p → Td H' (eG p) v → tz D (σ.set i (some v)) H') : tSeq (tAsg (tCall (spDG K S) [] E0 (tCons (tVar j) tNil)) (gName i)) tz D σ H :=
  ⟨_, hv, r, rfl, hR, fun v d H' _ _ hd ht => by
    obtain ⟨p, rfl, hok⟩ := hd
    exact k v p H' hok ht⟩
theorem eta_two {vl vw : V} {ds : List Dt} (h1 : Ev ta σ H vl) (h2 : Ev tb σ H vw) (hr : TdL H ds [vl, vw]) : EvTA (tCons ta (tCons tb tNil)) σ H ds := fun H1 e Q q => h1 H1 e _ fun H2 e2 => h2 H2 (e.trans e2) _ fun H3 e3 => q _ H3 (e2.trans e3) (hr.ex ((e.trans e2).trans e3))
theorem eO_two {o : Option (Int × Int)} {s : List V} (h : TdL H (eO o) s) : ∃ x y, s = [x, y] := by
  have hl := h.len
  have h2 : (eO o).length = 2 := by
    cases o with
    | none => rfl
    | some q => rfl
  rw [h2] at hl
  match s, hl with
  | [x, y], _ => exact ⟨x, y, rfl⟩
theorem eO_ok (o : Option (Int × Int)) : dtA (.tup (eO o)) ∧ dtW (.tup (eO o)) ∧ dpt (.tup (eO o)) < 25 := by
  cases o with
  | none => exact ⟨⟨trivial, trivial, trivial⟩, ⟨by show 2 ≤ 1000; decide, trivial, trivial, trivial⟩, by decide⟩
  | some q => exact ⟨⟨trivial, trivial, trivial⟩, ⟨by show 2 ≤ 1000; decide, trivial, trivial, trivial⟩, by show 1 + max 0 (max 0 0) < 25; decide⟩
theorem s_told {o : Option (Int × Int)} {q : Addr} {vl vw : V} {i j m : Nat} (h12 : σ[i]? = some (some (.ref q))) (h10 : σ[j]? = some (some vl)) (h11 : σ[m]? = some (some vw)) (ht : Td H (.tup (eO o)) (.ref q)) (hr : TdL H (eO o) [vl, vw]) (k : ∀ H1, Ex H H1 → D.nx σ H1) :
    tIfS (tNot (tB (tCall (spAlike 25) [] E0 (tCons (tVar i) (tCons (tTup (tCons (tVar j) (tCons (tVar m) tNil))) tNil))))) tu tNext D σ H := by
  obtain ⟨h1, h2, h3⟩ := eO_ok o
  exact s_when (b := false) (et_not (a := true) (et_B (ev_alike (dx_of (ev_var h12) ht) (dx_tup (eta_two (ev_var h10) (ev_var h11) hr) (by cases o <;> (show 2 ≤ 1000; decide))) h1 h2 h3))) (fun h => nomatch h) fun _ => k
theorem ev_isX {a C : Addr} {j : Nat} (h : σ[j]? = some (some (.ref a))) : Ev (tCB (rIsX a (.ref C)) (tCons (tVar j) (tCons (tC (.ref C)) tNil))) σ H (.bl true) := fun H1 e Q q => ⟨_, h, .ref C, rfl, fun u hu => hu, q H1 (Ex.refl H1)⟩
theorem ev_xf {a C d : Addr} {f : Str} {fs : List (Str × V)} {v : V} (h : Ev te σ H (.ref a)) (hd : H d = some (.xd fs)) (l : fs.lookup f = some v) : Ev (tXf a (.ref C) (some d) C f te) σ H v := fun H1 e Q q => h H1 e _ fun H2 e2 => ⟨rfl, rfl, d, fs, v, rfl, (e.trans e2) _ _ hd, l, q H2 e2⟩
theorem eu_ifT {xs : List V} (h : EvT tt σ H true) (h2 : EvU ta σ H xs) : EvU (tIf tt ta tb) σ H xs := fun H1 e Q q => h H1 e _ fun H2 e2 => by
  show ta σ H2 Q
  exact h2 H2 (e.trans e2) Q fun p H3 hp e3 h3 => q p H3 (fresh_back e2 hp) (e2.trans e3) h3
theorem ev_int1B {b : Bool} (h : Ev te σ H (.bl b)) : Ev (tCB rInt1 (tCons te tNil)) σ H (.int (if b then 1 else 0)) := ev_cb (ea_cons h ea_nil) fun H1 e Q q => .inr ⟨b, rfl, q H1 (Ex.refl H1)⟩
/-- values that are no texts -/
def badL (q r : Addr) : List V := [.non, .int 5, .ref q, .ref r]
def BadR (H : Hp) (v : V) (H2 : Hp) : Prop := ∃ p q r, v = .ref p ∧ Ex H H2 ∧ H2 p = some (.lst (badL q r)) ∧ H2 q = some (.tup []) ∧ H2 r = some (.lst [.str "names a"])
theorem bad_at {K : PySem.W.Frag} {i : Nat} {x : V} {q r : Addr} (h : (badL q r)[i]? = some x) (hq : H q = some (.tup [])) (hr : H r = some (.lst [.str "names a"])) : ∃ Ty, (∀ H1, Ex H H1 → TyX K H1 x (.type Ty)) ∧ kitB Ty "str" = some false := by
  match i, h with
  | 0, h => cases h; exact ⟨"NoneType", fun _ _ => ty_non, by decide +kernel⟩
  | 1, h => cases h; exact ⟨"int", fun _ _ => ty_int, by decide +kernel⟩
  | 2, h => cases h; exact ⟨"tuple", fun _ e => ty_tup (e _ _ hq), by decide +kernel⟩
  | 3, h => cases h; exact ⟨"list", fun _ e => ty_lst (e _ _ hr), by decide +kernel⟩
  | n + 4, h => cases h
theorem bad_mk : ∀ Q : VK, (∀ v H2, BadR H v H2 → Q v H2) → tLst (tCons (tC .non) (tCons (tC (.int 5)) (tCons (tTup tNil) (tCons (tLst (tCons (tC (.str "names a")) tNil)) tNil)))) σ H Q := fun Q q =>
  ⟨sz_of (Nat.zero_le _), fun a ha => ⟨sz_of (by show 1 ≤ 100000; decide), fun b hb => ⟨sz_of (by show 4 ≤ 100000; decide), fun c hc => q _ _ ⟨c, a, b, rfl, ((Ex.new ha).trans (Ex.new hb)).trans (Ex.new hc), upd_same, Ex.new hc _ _ (Ex.new hb _ _ upd_same), Ex.new hc _ _ upd_same⟩⟩⟩⟩
end
section
variable {K : PySem.W.Frag} {H : Hp} {t : TA} {D : Ends} {tz : TS} {s0 s1 s2 s3 s4 s5 s6 s7 s8 : Option V} {rest : L2.St}
theorem q_rowsA {rs : List (Str × Option (Int × Int))} (hr : EvTA t (s0 :: s1 :: s2 :: s3 :: s4 :: s5 :: s6 :: s7 :: s8 :: rest) H (rs.map eR)) (hl : rs.length ≤ 1000) (k : ∀ p xs H1, Ex H H1 → H1 p = some (.lst xs) → TdL H1 (rs.map eR) xs → tz D (s0 :: s1 :: s2 :: s3 :: s4 :: s5 :: s6 :: s7 :: some (.ref p) :: rest) H1) :
    tSeq (tAsg (tLst t) (gName 8)) tz D (s0 :: s1 :: s2 :: s3 :: s4 :: s5 :: s6 :: s7 :: s8 :: rest) H := q_rows0 hr hl k
theorem q_rowsB {R rs : List (Str × Option (Int × Int))} {p : Addr} {xs : List V} (hp : H p = some (.lst xs)) (hx : TdL H (R.map eR) xs) (hr : EvTA t (s0 :: s1 :: s2 :: s3 :: s4 :: s5 :: s6 :: s7 :: some (.ref p) :: rest) H (rs.map eR)) (hl : R.length + rs.length ≤ 1000)
    (k : ∀ p xs H1, Ex H H1 → H1 p = some (.lst xs) → TdL H1 ((R ++ rs).map eR) xs → tz D (s0 :: s1 :: s2 :: s3 :: s4 :: s5 :: s6 :: s7 :: some (.ref p) :: rest) H1) :
    tSeq (tAsg (tOp rCat (tVar 8) (tLst t)) (gName 8)) tz D (s0 :: s1 :: s2 :: s3 :: s4 :: s5 :: s6 :: s7 :: some (.ref p) :: rest) H := q_rows rfl hp hx hr hl k
end
def spLaw (K : PySem.W.Frag) : Sp := fun vs H Q _ => ∃ (sc : Addr) (ns : List Int), vs = [.ref sc] ∧ SqL K H sc (ns.map V.int) ∧ ∀ H', Q (.bl true) H'
section
variable {P : Program} {w : World} {K : PySem.W.Frag} {mg : Str → Option Value} {base : Heap} {a : Ads}
theorem c_law (T : Txt K mg w a) {f : Addr} {fd : FuncData} (D : FunD K "law" "law" (defArgs st_law) (defBody st_law) (defScope st_law) [] [] f fd) : FnOk P w K mg base CX0 31 f fd ["_law_script"] (spLaw K) := by
  have C_write_blocks : CalG CX0 P w K mg base 25 "write_blocks" spWrite [] := c_write_blocks T
  have C_read_blocks : CalG (CXX P w) P w K mg base 30 "read_blocks" (spRead K a.cBL a.cBS) [] := c_Read T
  have C__law_lines : CalG CX0 P w K mg base 17 "_law_lines" (spLLines 7) [] := c_llines T
  have C__law_alike : CalG CX0 P w K mg base 26 "_law_alike" (spAlike 25) [] := b_alike T 25
  refine D.ok sc_law (fun vs H Q E h => ?_) (fun cdv A outer s H vs Q E hr h => ?_)
  · obtain ⟨sc, ns, rfl, _⟩ := h
    rfl
  · obtain ⟨sc, ns, rfl, hS, k⟩ := h
    have C__law_program : CalG CX0 P w K mg base 12 "_law_program" (spDG K (sc, ns)) [] := c_program T
    refine ⟨_, PSs.nox ((pss_cons (ps_set (i := 1) sc_law.nd rfl (Or.inl rfl) (pe_lstF (K := K) rfl (pa_cons (pv 0) (pa_cons pe_int (pa_cons pe_int (pa_cons pe_int pa_nil))))))
      (pss_cons (ps_set (i := 2) sc_law.nd rfl (Or.inl rfl) (pe_f0 C__law_program hr (by omega) (by rfl) (pa_cons (pv 1) pa_nil)))
      (pss_cons (ps_set (i := 3) sc_law.nd rfl (Or.inl rfl) (pe_lst (pa_cons (pe_op op_add_str pe_str (pe_joinK (K := K) rfl pe_str (pe_ix ix_tup (pv 2) pe_int (fun _ _ => rfl)))) pa_nil)))
      (pss_cons (ps_for PassesOwn.never rfl (pi_tup (pe_ix ix_tup (pv 2) pe_int (fun _ _ => rfl))) (pg_tup (by rfl) (pgs_cons (pg_name (i := 4) sc_law.nd rfl (Or.inl rfl)) (pgs_cons (pg_name (i := 5) sc_law.nd rfl (Or.inl rfl)) pgs_nil))) (pss_one (ps_set (i := 3) sc_law.nd rfl (Or.inl rfl) (pe_op op_cat (pe_op op_cat (pe_op op_cat (pv 3) (pe_lst (pa_cons (pe_op op_add_str pe_str (pv 4)) pa_nil))) (pe_f0 C__law_lines hr (by omega) (by rfl) (pa_cons (pv 5) pa_nil))) (pe_lst (pa_cons pe_str pa_nil))))))
      (pss_cons (ps_set (i := 6) sc_law.nd rfl (Or.inl rfl) (pe_joinK (K := K) rfl pe_str (pe_op op_cat (pv 3) (pe_f0 C__law_lines hr (by omega) (by rfl) (pa_cons (pe_ix ix_tup (pv 2) pe_int (fun _ _ => rfl)) pa_nil)))))
      (pss_cons (ps_if (PW.pt (pw_or (pt_not (pt_val (pe_f0 C__law_alike hr (by omega) (by rfl) (pa_cons (pe_f0 C_write_blocks hr (by omega) (by rfl) (pa_cons (pv 2) pa_nil)) (pa_cons (pv 6) pa_nil))))) (pw_or1 (pt_not (pt_val (pe_f0 C__law_alike hr (by omega) (by rfl) (pa_cons (pe_f0R C_read_blocks hr (by omega) (by rfl) (pa_cons (pv 6) pa_nil)) (pa_cons (pv 2) pa_nil)))))))) (pss_one (ps_ret pe_bl)) pss_nil)
      (pss_cons (ps_if (pt_not (pt_val (pe_f0 C__law_alike hr (by omega) (by rfl) (pa_cons (pe_f0R C_read_blocks hr (by omega) (by rfl) (pa_cons (pe_op op_add_str (pe_opCT op_add_str (CwR.pet_replT (CwR.pet_replC (pv 6)))) pe_str) pa_nil)) (pa_cons (pv 2) pa_nil))))) (pss_one (ps_ret pe_bl)) pss_nil)
      (pss_cons (ps_set (i := 7) sc_law.nd rfl (Or.inl rfl) pe_str)
      (pss_cons (ps_set (i := 8) sc_law.nd rfl (Or.inl rfl) (pe_lst (pa_cons (pe_tup (pa_cons pe_str (pa_cons pe_int (pa_cons pe_int pa_nil)))) (pa_cons (pe_tup (pa_cons pe_str (pa_cons pe_int (pa_cons pe_int pa_nil)))) (pa_cons (pe_tup (pa_cons pe_str (pa_cons pe_int (pa_cons pe_int pa_nil)))) (pa_cons (pe_tup (pa_cons pe_str (pa_cons pe_int (pa_cons pe_int pa_nil)))) (pa_cons (pe_tup (pa_cons pe_str (pa_cons pe_int (pa_cons pe_int pa_nil)))) pa_nil)))))))
      (pss_cons (ps_set (i := 8) sc_law.nd rfl (Or.inl rfl) (pe_op op_cat (pv 8) (pe_lst (pa_cons (pe_tup (pa_cons pe_str (pa_cons pe_int (pa_cons pe_int pa_nil)))) (pa_cons (pe_tup (pa_cons pe_str (pa_cons pe_int (pa_cons pe_int pa_nil)))) (pa_cons (pe_tup (pa_cons (pe_op op_add_str (pv 7) pe_str) (pa_cons pe_int (pa_cons pe_int pa_nil)))) pa_nil))))))
      (pss_cons (ps_set (i := 8) sc_law.nd rfl (Or.inl rfl) (pe_op op_cat (pv 8) (pe_lst (pa_cons (pe_tup (pa_cons (pe_op op_add_str (pv 7) pe_str) (pa_cons pe_int (pa_cons pe_int pa_nil)))) (pa_cons (pe_tup (pa_cons (pe_op op_add_str (pv 7) pe_str) (pa_cons pe_int (pa_cons pe_int pa_nil)))) (pa_cons (pe_tup (pa_cons (pe_op op_add_str (pv 7) pe_str) (pa_cons pe_int (pa_cons pe_int pa_nil)))) (pa_cons (pe_tup (pa_cons (pe_op op_add_str (pv 7) pe_str) (pa_cons pe_int (pa_cons pe_int pa_nil)))) pa_nil)))))))
      (pss_cons (ps_set (i := 8) sc_law.nd rfl (Or.inl rfl) (pe_op op_cat (pv 8) (pe_lst (pa_cons (pe_tup (pa_cons (pe_op op_add_str (pv 7) pe_str) (pa_cons pe_int (pa_cons pe_int pa_nil)))) (pa_cons (pe_tup (pa_cons (pe_op op_add_str (pv 7) pe_str) (pa_cons pe_int (pa_cons pe_int pa_nil)))) (pa_cons (pe_tup (pa_cons (pe_op op_add_str (pv 7) pe_str) (pa_cons pe_int (pa_cons pe_int pa_nil)))) pa_nil))))))
      (pss_cons (ps_set (i := 8) sc_law.nd rfl (Or.inl rfl) (pe_op op_cat (pv 8) (pe_lst (pa_cons (pe_tup (pa_cons (pe_op op_add_str (pv 7) pe_str) (pa_cons pe_int (pa_cons pe_int pa_nil)))) (pa_cons (pe_tup (pa_cons (pe_op op_add_str (pv 7) pe_str) (pa_cons pe_int (pa_cons pe_int pa_nil)))) (pa_cons (pe_tup (pa_cons (pe_op op_add_str (pv 7) pe_str) (pa_cons pe_int (pa_cons pe_int pa_nil)))) pa_nil))))))
      (pss_cons (ps_set (i := 8) sc_law.nd rfl (Or.inl rfl) (pe_op op_cat (pv 8) (pe_lst (pa_cons (pe_tup (pa_cons (pe_op op_add_str (pv 7) pe_str) (pa_cons pe_int (pa_cons pe_int pa_nil)))) (pa_cons (pe_tup (pa_cons (pe_op op_add_str (pv 7) pe_str) (pa_cons pe_int (pa_cons pe_int pa_nil)))) (pa_cons (pe_tup (pa_cons (pe_op op_add_str (pv 7) pe_str) (pa_cons pe_int (pa_cons pe_int pa_nil)))) pa_nil))))))
      (pss_cons (ps_set (i := 8) sc_law.nd rfl (Or.inl rfl) (pe_op op_cat (pv 8) (pe_lst (pa_cons (pe_tup (pa_cons (pe_op op_add_str (pv 7) pe_str) (pa_cons pe_int (pa_cons pe_int pa_nil)))) (pa_cons (pe_tup (pa_cons (pe_op op_add_str (pv 7) pe_str) (pa_cons pe_int (pa_cons pe_int pa_nil)))) (pa_cons (pe_tup (pa_cons (pe_op op_add_str (pv 7) pe_str) (pa_cons pe_int (pa_cons pe_int pa_nil)))) pa_nil))))))
      (pss_cons (ps_set (i := 8) sc_law.nd rfl (Or.inl rfl) (pe_op op_cat (pv 8) (pe_lst (pa_cons (pe_tup (pa_cons (pe_op op_add_str (pv 7) pe_str) (pa_cons pe_int (pa_cons pe_int pa_nil)))) (pa_cons (pe_tup (pa_cons (pe_op op_add_str (pv 7) pe_str) (pa_cons pe_int (pa_cons pe_int pa_nil)))) (pa_cons (pe_tup (pa_cons (pe_op op_add_str (pv 7) pe_str) (pa_cons pe_int (pa_cons pe_int pa_nil)))) (pa_cons (pe_tup (pa_cons (pe_op op_add_str (pv 7) pe_str) (pa_cons pe_int (pa_cons pe_int pa_nil)))) pa_nil)))))))
      (pss_cons (ps_set (i := 8) sc_law.nd rfl (Or.inl rfl) (pe_op op_cat (pv 8) (pe_lst (pa_cons (pe_tup (pa_cons (pe_op op_add_str (pv 7) pe_str) (pa_cons pe_int (pa_cons pe_int pa_nil)))) (pa_cons (pe_tup (pa_cons (pe_op op_add_str (pv 7) pe_str) (pa_cons pe_int (pa_cons pe_int pa_nil)))) (pa_cons (pe_tup (pa_cons (pe_op op_add_str (pv 7) pe_str) (pa_cons pe_int (pa_cons pe_int pa_nil)))) pa_nil))))))
      (pss_cons (ps_set (i := 8) sc_law.nd rfl (Or.inl rfl) (pe_op op_cat (pv 8) (pe_lst (pa_cons (pe_tup (pa_cons (pe_op op_add_str (pv 7) pe_str) (pa_cons pe_int (pa_cons pe_int pa_nil)))) (pa_cons (pe_tup (pa_cons (pe_op op_add_str (pv 7) pe_str) (pa_cons pe_int (pa_cons pe_int pa_nil)))) (pa_cons (pe_tup (pa_cons (pe_op op_add_str (pv 7) pe_str) (pa_cons pe_int (pa_cons pe_int pa_nil)))) pa_nil))))))
      (pss_cons (ps_set (i := 8) sc_law.nd rfl (Or.inl rfl) (pe_op op_cat (pv 8) (pe_lst (pa_cons (pe_tup (pa_cons (pe_op op_add_str (pv 7) pe_str) (pa_cons pe_int (pa_cons pe_int pa_nil)))) pa_nil))))
      (pss_cons (ps_set (i := 8) sc_law.nd rfl (Or.inl rfl) (pe_op op_cat (pv 8) (pe_lst (pa_cons (pe_tup (pa_cons (pe_op op_add_str (pv 7) pe_str) (pa_cons pe_int (pa_cons pe_int pa_nil)))) (pa_cons (pe_tup (pa_cons (pe_op op_add_str (pv 7) pe_str) (pa_cons pe_int (pa_cons pe_int pa_nil)))) pa_nil)))))
      (pss_cons (ps_set (i := 8) sc_law.nd rfl (Or.inl rfl) (pe_op op_cat (pv 8) (pe_lst (pa_cons (pe_tup (pa_cons (pe_op op_add_str (pv 7) pe_str) (pa_cons pe_int (pa_cons pe_int pa_nil)))) (pa_cons (pe_tup (pa_cons (pe_op op_add_str (pv 7) pe_str) (pa_cons pe_int (pa_cons pe_int pa_nil)))) (pa_cons (pe_tup (pa_cons (pe_op op_add_str (pv 7) pe_str) (pa_cons pe_int (pa_cons pe_int pa_nil)))) pa_nil))))))
      (pss_cons (ps_set (i := 8) sc_law.nd rfl (Or.inl rfl) (pe_op op_cat (pv 8) (pe_lst (pa_cons (pe_tup (pa_cons (pe_op op_add_str (pv 7) pe_str) (pa_cons pe_int (pa_cons pe_int pa_nil)))) (pa_cons (pe_tup (pa_cons (pe_op op_add_str (pv 7) pe_str) (pa_cons pe_int (pa_cons pe_int pa_nil)))) pa_nil)))))
      (pss_cons (ps_set (i := 8) sc_law.nd rfl (Or.inl rfl) (pe_op op_cat (pv 8) (pe_lst (pa_cons (pe_tup (pa_cons (pe_op op_add_str (pv 7) pe_str) (pa_cons pe_int (pa_cons pe_int pa_nil)))) (pa_cons (pe_tup (pa_cons (pe_op op_add_str (pv 7) pe_str) (pa_cons pe_int (pa_cons pe_int pa_nil)))) (pa_cons (pe_tup (pa_cons (pe_op op_add_str (pv 7) pe_str) (pa_cons pe_int (pa_cons pe_int pa_nil)))) pa_nil))))))
      (pss_cons (ps_set (i := 8) sc_law.nd rfl (Or.inl rfl) (pe_op op_cat (pv 8) (pe_lst (pa_cons (pe_tup (pa_cons (pe_op op_add_str (pv 7) (pe_op op_mul_str pe_str pe_int)) (pa_cons pe_non (pa_cons pe_non pa_nil)))) (pa_cons (pe_tup (pa_cons (pe_op op_add_str (pv 7) (pe_op op_mul_str pe_str pe_int)) (pa_cons pe_int (pa_cons pe_int pa_nil)))) pa_nil)))))
      (pss_cons (ps_set (i := 8) sc_law.nd rfl (Or.inl rfl) (pe_op op_cat (pv 8) (pe_lst (pa_cons (pe_tup (pa_cons (pe_op op_add_str (pv 7) (pe_op op_mul_str pe_str pe_int)) (pa_cons pe_int (pa_cons pe_int pa_nil)))) (pa_cons (pe_tup (pa_cons (pe_op op_add_str (pe_op op_add_str (pv 7) pe_str) (pe_op op_mul_str pe_str pe_int)) (pa_cons pe_int (pa_cons pe_int pa_nil)))) pa_nil)))))
      (pss_cons (ps_set (i := 8) sc_law.nd rfl (Or.inl rfl) (pe_op op_cat (pv 8) (pe_lst (pa_cons (pe_tup (pa_cons (pe_op op_add_str (pv 7) pe_str) (pa_cons pe_int (pa_cons pe_int pa_nil)))) pa_nil))))
      (pss_cons (ps_set (i := 8) sc_law.nd rfl (Or.inl rfl) (pe_op op_cat (pv 8) (pe_lst (pa_cons (pe_tup (pa_cons (pe_op op_add_str (pe_op op_add_str (pv 7) pe_str) (pe_joinK (K := K) rfl pe_str (pe_op op_rep (pe_lst (pa_cons pe_str pa_nil)) pe_int))) (pa_cons pe_non (pa_cons pe_non pa_nil)))) pa_nil))))
      (pss_cons (ps_set (i := 8) sc_law.nd rfl (Or.inl rfl) (pe_op op_cat (pv 8) (pe_lst (pa_cons (pe_tup (pa_cons (pe_op op_add_str (pe_op op_add_str (pv 7) pe_str) (pe_joinK (K := K) rfl pe_str (pe_op op_rep (pe_lst (pa_cons pe_str pa_nil)) pe_int))) (pa_cons pe_int (pa_cons pe_int pa_nil)))) pa_nil))))
      (pss_cons (ps_set (i := 8) sc_law.nd rfl (Or.inl rfl) (pe_op op_cat (pv 8) (pe_lst (pa_cons (pe_tup (pa_cons (pe_op op_add_str (pe_op op_add_str (pe_op op_add_str (pe_op op_add_str (pv 7) pe_str) (pe_op op_mul_str pe_str pe_int)) pe_str) (pe_op op_mul_str pe_str pe_int)) (pa_cons pe_non (pa_cons pe_non pa_nil)))) pa_nil))))
      (pss_cons (ps_set (i := 8) sc_law.nd rfl (Or.inl rfl) (pe_op op_cat (pv 8) (pe_lst (pa_cons (pe_tup (pa_cons (pe_op op_add_str (pe_op op_add_str (pe_op op_add_str (pe_op op_add_str (pv 7) pe_str) (pe_op op_mul_str pe_str pe_int)) pe_str) (pe_op op_mul_str pe_str pe_int)) (pa_cons pe_int (pa_cons pe_int pa_nil)))) pa_nil))))
      (pss_cons (ps_set (i := 8) sc_law.nd rfl (Or.inl rfl) (pe_op op_cat (pv 8) (pe_lst (pa_cons (pe_tup (pa_cons (pe_op op_add_str (pv 7) pe_str) (pa_cons pe_non (pa_cons pe_non pa_nil)))) (pa_cons (pe_tup (pa_cons (pe_op op_add_str (pv 7) pe_str) (pa_cons pe_non (pa_cons pe_non pa_nil)))) pa_nil)))))
      (pss_cons (ps_set (i := 8) sc_law.nd rfl (Or.inl rfl) (pe_op op_cat (pv 8) (pe_lst (pa_cons (pe_tup (pa_cons (pe_op op_add_str (pv 7) pe_str) (pa_cons pe_non (pa_cons pe_non pa_nil)))) pa_nil))))
      (pss_cons (ps_for PassesOwn.never rfl (pi_list (pv 8)) (pg_tup (by rfl) (pgs_cons (pg_name (i := 9) sc_law.nd rfl (Or.inl rfl)) (pgs_cons (pg_name (i := 10) sc_law.nd rfl (Or.inl rfl)) (pgs_cons (pg_name (i := 11) sc_law.nd rfl (Or.inl rfl)) pgs_nil)))) (pss_cons (ps_set (i := 12) sc_law.nd rfl (Or.inl rfl) (pe_tup (pa_cons pe_non (pa_cons pe_non pa_nil))))
      (pss_cons (ps_try_as (i := 13) (Wout := fun _ _ _ _ => False) rfl rfl sc_law.nd rfl rfl ⟨by rfl, by decide, .inl (nm_E T)⟩ takes_no (fun W pn xe tk po => pss_one (ps_expr (pe_fS C_read_blocks hr (by omega) tk (by rfl) (pa_cons (pv 9) pa_nil)))) (fun a oe cls d pn hz hf => (pss_one (ps_set (i := 12) sc_law.nd rfl (Or.inl rfl) (pe_ifExp (pt_val (pe_callB (call_isX hz) (by rfl) T.b_isinstance (by decide +kernel) (pa_cons (pv 13) (pa_cons (C8.pe_gc (by rfl) T.c_BadLine) pa_nil)))) (pe_tup (pa_cons (pe_xf T.xf_BadLine T.f_BadLine_line hz hf (pv 13)) (pa_cons (pe_xf T.xf_BadLine T.f_BadLine_word hz hf (pv 13)) pa_nil))) pe_str)))))
      (pss_one (ps_if (pt_not (pt_val (pe_f0 C__law_alike hr (by omega) (by rfl) (pa_cons (pv 12) (pa_cons (pe_tup (pa_cons (pv 10) (pa_cons (pv 11) pa_nil))) pa_nil))))) (pss_one (ps_ret pe_bl)) pss_nil)))))
      (pss_cons (ps_set (i := 14) sc_law.nd rfl (Or.inl rfl) pe_int)
      (pss_cons (ps_for PassesOwn.never rfl (pi_list (pe_lst (pa_cons pe_non (pa_cons pe_int (pa_cons (pe_tup pa_nil) (pa_cons (pe_lst (pa_cons pe_str pa_nil)) pa_nil)))))) (pg_name (i := 15) sc_law.nd rfl (Or.inl rfl)) (pss_one (ps_try_as (i := 13) (Wout := fun _ _ _ _ => False) rfl rfl sc_law.nd rfl rfl ⟨by rfl, by decide, .inl (nm_E T)⟩ takes_no (fun W pn xe tk po => pss_one (ps_expr (pe_fS C_read_blocks hr (by omega) tk (by rfl) (pa_cons (pv 15) pa_nil)))) (fun a oe cls d pn hz hf => (pss_one (ps_set (i := 14) sc_law.nd rfl (Or.inl rfl) (pe_op op_add (pv 14) (pe_callTy call_int1 (by rfl) T.b_int (by decide +kernel) (pa_cons (pe_callB (call_isX hz) (by rfl) T.b_isinstance (by decide +kernel) (pa_cons (pv 13) (pa_cons (C8.pe_gc (by rfl) T.c_BadString) pa_nil))) pa_nil)))))))))
      (pss_one (ps_ret (pe_cmpR op_eq (pv 14) pe_int (nomark _)))))))))))))))))))))))))))))))))))))))), ?_⟩
    refine q_asgF (ea_cons (ev_var rfl) (ea_cons ev_c (ea_cons ev_c (ea_cons ev_c ea_nil)))) (by simp) fun r H1 hr0 hrK e1 hr1 => ?_
    have hne : sc ≠ r := by
      intro z
      subst z
      rcases hS with (h | ⟨o, h⟩) | ⟨o, its, n, h, _⟩
      · rw [hr0] at h
        cases h
      · rw [hr0] at h
        cases h
      · rw [hrK] at h
        cases h
    have hR : RowS K (sc, ns) H1 r := ⟨0, 11003, 0, hne, ex_l e1 hS, hr1, by decide, by decide, by decide⟩
    refine q_prog rfl hR fun v p H2 hp hv => ?_
    obtain ⟨ad, xs, rfl, had, v1, r1, rfl, ⟨na, nms, rfl, hna, hns⟩, v2, r2, rfl, ⟨pa, ps, rfl, hpa, hps⟩, v3, r3, rfl, hb, q4⟩ := id hv
    cases (show r3 = [] from q4)
    have hns' := hns.strs
    subst hns'
    have hT : ∀ H', Ex H2 H' → SqT K H' ad [.ref na, .ref pa, v3] := fun H1 e => sumT e had
    have hpl : ps.length = p.procs.length := by rw [TdL.len hps, List.length_map]
    have hpn := okProcs_names hp.pr
    have h4 := hp.pl
    have hsz := hp.sz
    have hn5 := hp.n5
    have hbl := linesB_len p.block
    have hnn : p.names ≠ [] := fun z => by
      have := hp.n1
      rw [z] at this
      cases this
    have slN : sl ((["names"] : List Str) ++ p.names) := sl_prog hp _ (by
      show _ ∈ [(["names"] : List Str) ++ p.names] ++ (p.procs.map procL).flatten ++ linesB p.block
      simp)
    have slM : sl p.names := ⟨by omega, fun w hw => slN.2 w (List.mem_append_right _ hw)⟩
    have lM := jn_len slM
    have lM2 := jn_le slM
    have lnm : ("names " : Str).length = 6 := by decide +kernel
    refine q_asgL (xs := [V.str (jn ((["names"] : List Str) ++ p.names))]) (el_lst (ea_cons (ev_is (ev_addS ev_c (ev_joinV ev_c (ev_w0 (ev_var rfl) (hT _ (Ex.refl _))) (.inr hna) (by omega)) (by unfold jn at lM2; omega)) ?_) ea_nil) (by simp)) fun l H3 hl0 e3 hl => ?_
    · rw [jn_line hnn, show ("names " : Str) = ("names" : Str) ++ (" " : Str) from by decide +kernel]
      rfl
    refine q_forT (xs := ps) (ev_w1 (ev_var rfl) (hT _ e3)) (sumT e3 hpa) (fun i σ' H' => ∃ (l : Addr) (x y : Option V), σ' = [some (.ref sc), some (.ref r), some (.ref ad), some (.ref l), x, y, none, none, none, none, none, none, none, none, none, none] ∧ Ex H2 H' ∧ H' l = some (.lst ((([(["names"] : List Str) ++ p.names] ++ ((p.procs.take i).map procL).flatten).map jn).map V.str)))
      (fun H4 e4 => ⟨l, none, none, rfl, e3.trans e4, e4 _ _ hl⟩) (fun i σ' H' _ ⟨_, _, _, _, e, _⟩ => sumT e hpa) ?_ ?_
    · rintro i x σ' H' hx ⟨l, x0, y0, rfl, e, hl⟩
      obtain ⟨dt, hdt, htd⟩ := hps.get hx
      rw [List.getElem?_map] at hdt
      cases hq : p.procs[i]? with
      | none =>
        rw [hq] at hdt
        cases hdt
      | some q =>
        rw [hq] at hdt
        cases hdt
        obtain ⟨qa, ys, rfl, hqa, w1, s1, rfl, f1, w2, s2, rfl, f2, f3⟩ := htd
        cases (show w1 = .str q.1 from f1)
        cases (show s2 = [] from f3)
        obtain ⟨g1, g2, g3⟩ := okProcs_get hp.pr hq
        rw [List.nil_append] at g3
        have hzi := szProcs_le (ps := p.procs) (i + 1)
        rw [szProcs_take hq] at hzi
        have hbq := linesB_len q.2
        have hpr := procs_len (p.procs.take i)
        have hz2 := szProcs_le (ps := p.procs) i
        have hi4 : (p.procs.take i).length ≤ 4 := by rw [List.length_take]; omega
        have hdn : ∀ x ∈ (p.procs.take i).map (·.1), isName x = true := fun y hy => hpn y (by
          obtain ⟨z, hz, ez⟩ := List.mem_map.mp hy
          exact List.mem_map.mpr ⟨z, List.mem_of_mem_take hz, ez⟩)
        have lq := (isName_spec g1).2.1
        have lto : ("to " : Str).length = 3 := by decide +kernel
        refine ⟨qa, _, rfl, sumT e hqa, rfl, _, _, rfl, _, _, rfl, rfl, ?_⟩
        refine s_asgL (xs := ((([(["names"] : List Str) ++ p.names] ++ ((p.procs.take i).map procL).flatten).map jn).map V.str) ++ [V.str (jn (["to", q.1] : List Str))] ++ ((linesB q.2).map jn).map V.str ++ [V.str "end"])
          (el_cat (el_cat (el_catV (ev_var rfl) hl (el_lst (ea_cons (ev_is (ev_addS ev_c (ev_var rfl) (by omega)) ?_) ea_nil) (by simp)) ?_)
            (el_call (ea_cons (ev_var rfl) ea_nil) fun H5 e6 Q' r E' => ⟨w2, q.2, p.names, _, 1, rfl, f2.ex (e.trans e6), g3, hp.nm, hdn, by have := ht_okB q.2 1 g3 (by omega); omega, by omega, r⟩) ?_) (el_lst (ea_cons ev_c ea_nil) (by simp)) ?_) fun l2 H5 h50 e5 h5 => ⟨l2, _, _, rfl, e.trans e5, ?_⟩
        · show V.str (("to " : Str) ++ q.1) = V.str (jn ((["to"] : List Str) ++ [q.1]))
          rw [jn_line (by simp), jn_one, show ("to " : Str) = ("to" : Str) ++ (" " : Str) from by decide +kernel]
        · simp only [List.length_append, List.length_map, List.length_cons, List.length_nil]
          omega
        · simp only [List.length_append, List.length_map, List.length_cons, List.length_nil]
          omega
        · simp only [List.length_append, List.length_map, List.length_cons, List.length_nil]
          omega
        · rw [h5, lines_take hq, ← List.append_assoc, map_jn (_ ++ _) (procL q), show procL q = [(["to", q.1] : List Str)] ++ linesB q.2 ++ [(["end"] : List Str)] from rfl, map_jn (_ ++ _) [(["end"] : List Str)], map_jn [(["to", q.1] : List Str)] (linesB q.2)]
          simp only [List.append_assoc]
          rfl
    rintro σ' H4 ⟨l, x0, y0, rfl, e4, hl⟩
    rw [hpl, List.take_length] at hl
    have hpr := procs_len p.procs
    have hlp := prog_len hp
    refine q_asg (v := .str (textOf p)) (ev_join (ys := (progL p).map jn) ev_c (el_is (el_catV (ev_var rfl) hl (el_call (ea_cons (ev_w2 (ev_var rfl) (hT _ e4)) ea_nil) fun H5 e6 Q' r E' => ⟨v3, p.block, p.names, p.procs.map (·.1), 1, rfl, hb.ex (e4.trans e6), hp.bl, hp.nm, hpn, by have := ht_okB p.block 1 hp.bl (by omega); omega, by omega, r⟩) ?_) ?_) ?_) fun H5 e5' => ?_
    · simp only [List.length_append, List.length_map, List.length_cons, List.length_nil]
      omega
    · rw [← map_jn]
      rfl
    · have := text_sum hp
      omega
    have e5 := e4.trans e5'
    have hG := dpt_G hp
    have hA := asc_text hp
    refine q_no (et_or (a := false) (b := false) (et_not (a := true) (et_B (ev_alike (d := .str (textOf p)) (dx_str (ev_call (z := .str (textOf p)) (ea_cons (ev_var rfl) ea_nil) fun H6 e6 Q' q E' => ⟨_, p, rfl, hv.ex (e5.trans e6), hp, q⟩)) (dx_str (ev_var rfl)) hA trivial (by show 0 < 25; decide)))) fun _ =>
      et_not (a := true) (et_B (ev_alike (d := eG p) (dx_read (ev_var rfl) (okT_text hp) (read_text hp)) (dx_of (ev_var rfl) (hv.ex e5)) hG.2.2 hG.2.1 (by have := hG.1; omega)))) fun H6 e6' => ?_
    have e6 := e5.trans e6'
    have lt := text_len hp
    have lm := mid_len hp
    have lm2 := mid2_len hp
    have l1 : ("\n " : Str).length = 2 := by decide +kernel
    have l2 : ("\n" : Str).length = 1 := by decide +kernel
    have l3 : ("\n\n" : Str).length = 2 := by decide +kernel
    have l4 : ("  " : Str).length = 2 := by decide +kernel
    refine q_no (et_not (a := true) (et_B (ev_alike (d := eG p) (dx_read (z := wideText (textOf p)) (ev_addS (ev_addS ev_c (ev_repl (ev_repl (ev_var rfl) (by rw [l4]; omega)) (by rw [l3]; omega)) (by omega)) ev_c (by rw [len_app]; omega)) (okT_wide hp) (read_wide hp)) (dx_of (ev_var rfl) (hv.ex e6)) hG.2.2 hG.2.1 (by have := hG.1; omega)))) fun H7 e7 => ?_
    refine q_asg (v := .str oneS) ev_c fun H8 e8 => ?_
    refine q_rowsA (rs := rw0) (eta_cons (dx_tup (eta_cons (dx_str ev_c) (eta_cons dx_i (eta_cons dx_i eta_nil))) (by decide)) (eta_cons (dx_tup (eta_cons (dx_str ev_c) (eta_cons dx_i (eta_cons dx_i eta_nil))) (by decide)) (eta_cons (dx_tup (eta_cons (dx_str ev_c) (eta_cons dx_i (eta_cons dx_i eta_nil))) (by decide)) (eta_cons (dx_tup (eta_cons (dx_str ev_c) (eta_cons dx_i (eta_cons dx_i eta_nil))) (by decide)) (eta_cons (dx_tup (eta_cons (dx_str ev_c) (eta_cons dx_i (eta_cons dx_i eta_nil))) (by decide)) eta_nil))))) (by decide) fun p0 xs0 G0 f0 h0 t0 => ?_
    refine q_rowsB (R := rws0) (rs := rw1) h0 t0 (eta_cons (dx_tup (eta_cons (dx_str ev_c) (eta_cons dx_i (eta_cons dx_i eta_nil))) (by decide)) (eta_cons (dx_tup (eta_cons (dx_str ev_c) (eta_cons dx_i (eta_cons dx_i eta_nil))) (by decide)) (eta_cons (dx_tup (eta_cons (dx_str (ev_addS (ev_var rfl) ev_c (by decide +kernel))) (eta_cons dx_i (eta_cons dx_i eta_nil))) (by decide)) eta_nil))) (by decide) fun p1 xs1 G1 f1 h1 t1 => ?_
    refine q_rowsB (R := rws1) (rs := rw2) h1 t1 (eta_cons (dx_tup (eta_cons (dx_str (ev_addS (ev_var rfl) ev_c (by decide +kernel))) (eta_cons dx_i (eta_cons dx_i eta_nil))) (by decide)) (eta_cons (dx_tup (eta_cons (dx_str (ev_addS (ev_var rfl) ev_c (by decide +kernel))) (eta_cons dx_i (eta_cons dx_i eta_nil))) (by decide)) (eta_cons (dx_tup (eta_cons (dx_str (ev_addS (ev_var rfl) ev_c (by decide +kernel))) (eta_cons dx_i (eta_cons dx_i eta_nil))) (by decide)) (eta_cons (dx_tup (eta_cons (dx_str (ev_addS (ev_var rfl) ev_c (by decide +kernel))) (eta_cons dx_i (eta_cons dx_i eta_nil))) (by decide)) eta_nil)))) (by decide) fun p2 xs2 G2 f2 h2 t2 => ?_
    refine q_rowsB (R := rws2) (rs := rw3) h2 t2 (eta_cons (dx_tup (eta_cons (dx_str (ev_addS (ev_var rfl) ev_c (by decide +kernel))) (eta_cons dx_i (eta_cons dx_i eta_nil))) (by decide)) (eta_cons (dx_tup (eta_cons (dx_str (ev_addS (ev_var rfl) ev_c (by decide +kernel))) (eta_cons dx_i (eta_cons dx_i eta_nil))) (by decide)) (eta_cons (dx_tup (eta_cons (dx_str (ev_addS (ev_var rfl) ev_c (by decide +kernel))) (eta_cons dx_i (eta_cons dx_i eta_nil))) (by decide)) eta_nil))) (by decide) fun p3 xs3 G3 f3 h3 t3 => ?_
    refine q_rowsB (R := rws3) (rs := rw4) h3 t3 (eta_cons (dx_tup (eta_cons (dx_str (ev_addS (ev_var rfl) ev_c (by decide +kernel))) (eta_cons dx_i (eta_cons dx_i eta_nil))) (by decide)) (eta_cons (dx_tup (eta_cons (dx_str (ev_addS (ev_var rfl) ev_c (by decide +kernel))) (eta_cons dx_i (eta_cons dx_i eta_nil))) (by decide)) (eta_cons (dx_tup (eta_cons (dx_str (ev_addS (ev_var rfl) ev_c (by decide +kernel))) (eta_cons dx_i (eta_cons dx_i eta_nil))) (by decide)) eta_nil))) (by decide) fun p4 xs4 G4 f4 h4 t4 => ?_
    refine q_rowsB (R := rws4) (rs := rw5) h4 t4 (eta_cons (dx_tup (eta_cons (dx_str (ev_addS (ev_var rfl) ev_c (by decide +kernel))) (eta_cons dx_i (eta_cons dx_i eta_nil))) (by decide)) (eta_cons (dx_tup (eta_cons (dx_str (ev_addS (ev_var rfl) ev_c (by decide +kernel))) (eta_cons dx_i (eta_cons dx_i eta_nil))) (by decide)) (eta_cons (dx_tup (eta_cons (dx_str (ev_addS (ev_var rfl) ev_c (by decide +kernel))) (eta_cons dx_i (eta_cons dx_i eta_nil))) (by decide)) eta_nil))) (by decide) fun p5 xs5 G5 f5 h5 t5 => ?_
    refine q_rowsB (R := rws5) (rs := rw6) h5 t5 (eta_cons (dx_tup (eta_cons (dx_str (ev_addS (ev_var rfl) ev_c (by decide +kernel))) (eta_cons dx_i (eta_cons dx_i eta_nil))) (by decide)) (eta_cons (dx_tup (eta_cons (dx_str (ev_addS (ev_var rfl) ev_c (by decide +kernel))) (eta_cons dx_i (eta_cons dx_i eta_nil))) (by decide)) (eta_cons (dx_tup (eta_cons (dx_str (ev_addS (ev_var rfl) ev_c (by decide +kernel))) (eta_cons dx_i (eta_cons dx_i eta_nil))) (by decide)) eta_nil))) (by decide) fun p6 xs6 G6 f6 h6 t6 => ?_
    refine q_rowsB (R := rws6) (rs := rw7) h6 t6 (eta_cons (dx_tup (eta_cons (dx_str (ev_addS (ev_var rfl) ev_c (by decide +kernel))) (eta_cons dx_i (eta_cons dx_i eta_nil))) (by decide)) (eta_cons (dx_tup (eta_cons (dx_str (ev_addS (ev_var rfl) ev_c (by decide +kernel))) (eta_cons dx_i (eta_cons dx_i eta_nil))) (by decide)) (eta_cons (dx_tup (eta_cons (dx_str (ev_addS (ev_var rfl) ev_c (by decide +kernel))) (eta_cons dx_i (eta_cons dx_i eta_nil))) (by decide)) (eta_cons (dx_tup (eta_cons (dx_str (ev_addS (ev_var rfl) ev_c (by decide +kernel))) (eta_cons dx_i (eta_cons dx_i eta_nil))) (by decide)) eta_nil)))) (by decide) fun p7 xs7 G7 f7 h7 t7 => ?_
    refine q_rowsB (R := rws7) (rs := rw8) h7 t7 (eta_cons (dx_tup (eta_cons (dx_str (ev_addS (ev_var rfl) ev_c (by decide +kernel))) (eta_cons dx_i (eta_cons dx_i eta_nil))) (by decide)) (eta_cons (dx_tup (eta_cons (dx_str (ev_addS (ev_var rfl) ev_c (by decide +kernel))) (eta_cons dx_i (eta_cons dx_i eta_nil))) (by decide)) (eta_cons (dx_tup (eta_cons (dx_str (ev_addS (ev_var rfl) ev_c (by decide +kernel))) (eta_cons dx_i (eta_cons dx_i eta_nil))) (by decide)) eta_nil))) (by decide) fun p8 xs8 G8 f8 h8 t8 => ?_
    refine q_rowsB (R := rws8) (rs := rw9) h8 t8 (eta_cons (dx_tup (eta_cons (dx_str (ev_addS (ev_var rfl) ev_c (by decide +kernel))) (eta_cons dx_i (eta_cons dx_i eta_nil))) (by decide)) (eta_cons (dx_tup (eta_cons (dx_str (ev_addS (ev_var rfl) ev_c (by decide +kernel))) (eta_cons dx_i (eta_cons dx_i eta_nil))) (by decide)) (eta_cons (dx_tup (eta_cons (dx_str (ev_addS (ev_var rfl) ev_c (by decide +kernel))) (eta_cons dx_i (eta_cons dx_i eta_nil))) (by decide)) eta_nil))) (by decide) fun p9 xs9 G9 f9 h9 t9 => ?_
    refine q_rowsB (R := rws9) (rs := rw10) h9 t9 (eta_cons (dx_tup (eta_cons (dx_str (ev_addS (ev_var rfl) ev_c (by decide +kernel))) (eta_cons dx_i (eta_cons dx_i eta_nil))) (by decide)) eta_nil) (by decide) fun p10 xs10 G10 f10 h10 t10 => ?_
    refine q_rowsB (R := rws10) (rs := rw11) h10 t10 (eta_cons (dx_tup (eta_cons (dx_str (ev_addS (ev_var rfl) ev_c (by decide +kernel))) (eta_cons dx_i (eta_cons dx_i eta_nil))) (by decide)) (eta_cons (dx_tup (eta_cons (dx_str (ev_addS (ev_var rfl) ev_c (by decide +kernel))) (eta_cons dx_i (eta_cons dx_i eta_nil))) (by decide)) eta_nil)) (by decide) fun p11 xs11 G11 f11 h11 t11 => ?_
    refine q_rowsB (R := rws11) (rs := rw12) h11 t11 (eta_cons (dx_tup (eta_cons (dx_str (ev_addS (ev_var rfl) ev_c (by decide +kernel))) (eta_cons dx_i (eta_cons dx_i eta_nil))) (by decide)) (eta_cons (dx_tup (eta_cons (dx_str (ev_addS (ev_var rfl) ev_c (by decide +kernel))) (eta_cons dx_i (eta_cons dx_i eta_nil))) (by decide)) (eta_cons (dx_tup (eta_cons (dx_str (ev_addS (ev_var rfl) ev_c (by decide +kernel))) (eta_cons dx_i (eta_cons dx_i eta_nil))) (by decide)) eta_nil))) (by decide) fun p12 xs12 G12 f12 h12 t12 => ?_
    refine q_rowsB (R := rws12) (rs := rw13) h12 t12 (eta_cons (dx_tup (eta_cons (dx_str (ev_addS (ev_var rfl) ev_c (by decide +kernel))) (eta_cons dx_i (eta_cons dx_i eta_nil))) (by decide)) (eta_cons (dx_tup (eta_cons (dx_str (ev_addS (ev_var rfl) ev_c (by decide +kernel))) (eta_cons dx_i (eta_cons dx_i eta_nil))) (by decide)) eta_nil)) (by decide) fun p13 xs13 G13 f13 h13 t13 => ?_
    refine q_rowsB (R := rws13) (rs := rw14) h13 t13 (eta_cons (dx_tup (eta_cons (dx_str (ev_addS (ev_var rfl) ev_c (by decide +kernel))) (eta_cons dx_i (eta_cons dx_i eta_nil))) (by decide)) (eta_cons (dx_tup (eta_cons (dx_str (ev_addS (ev_var rfl) ev_c (by decide +kernel))) (eta_cons dx_i (eta_cons dx_i eta_nil))) (by decide)) (eta_cons (dx_tup (eta_cons (dx_str (ev_addS (ev_var rfl) ev_c (by decide +kernel))) (eta_cons dx_i (eta_cons dx_i eta_nil))) (by decide)) eta_nil))) (by decide) fun p14 xs14 G14 f14 h14 t14 => ?_
    refine q_rowsB (R := rws14) (rs := rw15) h14 t14 (eta_cons (dx_tup (eta_cons (dx_str (ev_addS (ev_var rfl) (ev_mulS (by decide) (by decide) (by decide +kernel)) (by decide +kernel))) (eta_cons dx_n (eta_cons dx_n eta_nil))) (by decide)) (eta_cons (dx_tup (eta_cons (dx_str (ev_addS (ev_var rfl) (ev_mulS (by decide) (by decide) (by decide +kernel)) (by decide +kernel))) (eta_cons dx_i (eta_cons dx_i eta_nil))) (by decide)) eta_nil)) (by decide) fun p15 xs15 G15 f15 h15 t15 => ?_
    refine q_rowsB (R := rws15) (rs := rw16) h15 t15 (eta_cons (dx_tup (eta_cons (dx_str (ev_addS (ev_var rfl) (ev_mulS (by decide) (by decide) (by decide +kernel)) (by decide +kernel))) (eta_cons dx_i (eta_cons dx_i eta_nil))) (by decide)) (eta_cons (dx_tup (eta_cons (dx_str (ev_addS (ev_addS (ev_var rfl) ev_c (by decide +kernel)) (ev_mulS (by decide) (by decide) (by decide +kernel)) (by decide +kernel))) (eta_cons dx_i (eta_cons dx_i eta_nil))) (by decide)) eta_nil)) (by decide) fun p16 xs16 G16 f16 h16 t16 => ?_
    refine q_rowsB (R := rws16) (rs := rw17) h16 t16 (eta_cons (dx_tup (eta_cons (dx_str (ev_addS (ev_var rfl) ev_c (by decide +kernel))) (eta_cons dx_i (eta_cons dx_i eta_nil))) (by decide)) eta_nil) (by decide) fun p17 xs17 G17 f17 h17 t17 => ?_
    refine q_rowsB (R := rws17) (rs := rw18) h17 t17 (eta_cons (dx_tup (eta_cons (dx_str (ev_addS (ev_addS (ev_var rfl) ev_c (by decide +kernel)) (ev_join ev_c (el_rep1 (by decide)) (by decide +kernel)) (by decide +kernel))) (eta_cons dx_n (eta_cons dx_n eta_nil))) (by decide)) eta_nil) (by decide) fun p18 xs18 G18 f18 h18 t18 => ?_
    refine q_rowsB (R := rws18) (rs := rw19) h18 t18 (eta_cons (dx_tup (eta_cons (dx_str (ev_addS (ev_addS (ev_var rfl) ev_c (by decide +kernel)) (ev_join ev_c (el_rep1 (by decide)) (by decide +kernel)) (by decide +kernel))) (eta_cons dx_i (eta_cons dx_i eta_nil))) (by decide)) eta_nil) (by decide) fun p19 xs19 G19 f19 h19 t19 => ?_
    refine q_rowsB (R := rws19) (rs := rw20) h19 t19 (eta_cons (dx_tup (eta_cons (dx_str (ev_addS (ev_addS (ev_addS (ev_addS (ev_var rfl) ev_c (by decide +kernel)) (ev_mulS (by decide) (by decide) (by decide +kernel)) (by decide +kernel)) ev_c (by decide +kernel)) (ev_mulS (by decide) (by decide) (by decide +kernel)) (by decide +kernel))) (eta_cons dx_n (eta_cons dx_n eta_nil))) (by decide)) eta_nil) (by decide) fun p20 xs20 G20 f20 h20 t20 => ?_
    refine q_rowsB (R := rws20) (rs := rw21) h20 t20 (eta_cons (dx_tup (eta_cons (dx_str (ev_addS (ev_addS (ev_addS (ev_addS (ev_var rfl) ev_c (by decide +kernel)) (ev_mulS (by decide) (by decide) (by decide +kernel)) (by decide +kernel)) ev_c (by decide +kernel)) (ev_mulS (by decide) (by decide) (by decide +kernel)) (by decide +kernel))) (eta_cons dx_i (eta_cons dx_i eta_nil))) (by decide)) eta_nil) (by decide) fun p21 xs21 G21 f21 h21 t21 => ?_
    refine q_rowsB (R := rws21) (rs := rw22) h21 t21 (eta_cons (dx_tup (eta_cons (dx_str (ev_addS (ev_var rfl) ev_c (by decide +kernel))) (eta_cons dx_n (eta_cons dx_n eta_nil))) (by decide)) (eta_cons (dx_tup (eta_cons (dx_str (ev_addS (ev_var rfl) ev_c (by decide +kernel))) (eta_cons dx_n (eta_cons dx_n eta_nil))) (by decide)) eta_nil)) (by decide) fun p22 xs22 G22 f22 h22 t22 => ?_
    refine q_rowsB (R := rws22) (rs := rw23) h22 t22 (eta_cons (dx_tup (eta_cons (dx_str (ev_addS (ev_var rfl) ev_c (by decide +kernel))) (eta_cons dx_n (eta_cons dx_n eta_nil))) (by decide)) eta_nil) (by decide) fun pL xsL GL fL hL tL => ?_
    have tL : TdL GL (rws23.map eR) xsL := tL
    refine q_forL (ev_var rfl) (sq_of hL) (fun i σ' H' => ∃ y0 y1 y2 y3 y4 y5 y6 y7 z0 z1 z2 z3 z4 : Option V, σ' = [y0, y1, y2, y3, y4, y5, y6, y7, some (.ref pL), z0, z1, z2, z3, z4, none, none] ∧ Ex GL H')
      (fun H9 e9 => ⟨_, _, _, _, _, _, _, _, _, _, _, _, _, rfl, e9⟩) (fun i σ' H' _ ⟨_, _, _, _, _, _, _, _, _, _, _, _, _, _, e⟩ => sq_of (e _ _ hL)) ?_ ?_
    · rintro i x σ' H' hx ⟨y0, y1, y2, y3, y4, y5, y6, y7, z0, z1, z2, z3, z4, rfl, e⟩
      obtain ⟨dt, hdt, htd⟩ := tL.get hx
      rw [List.getElem?_map] at hdt
      cases hq : rws23[i]? with
      | none =>
        rw [hq] at hdt
        cases hdt
      | some row =>
        rw [hq] at hdt
        cases hdt
        obtain ⟨okz, hto⟩ := row_at hq
        obtain ⟨z, o⟩ := row
        obtain ⟨ra, ys, rfl, hra, w0, s0, rfl, f0, hro⟩ := htd
        cases (show w0 = .str z from f0)
        obtain ⟨vl, vw, rfl⟩ := eO_two hro
        refine g_three (e _ _ hra) ?_
        refine q_asgU (xs := [.non, .non]) (eu_tup (ea_cons ev_c (ea_cons ev_c ea_nil)) (by simp)) fun q H9 _ e9 hq9 => ?_
        have hro9 := hro.ex (e.trans e9)
        refine ⟨_, rfl, .inl ⟨z, rfl, okz, ?_⟩⟩
        cases hrd : readT (tl z) with
        | ok pg =>
          have ho : o = none := (show toldI z = o from hto).symm.trans (by
            unfold toldI
            rw [hrd])
          subst ho
          intro v H10 e10 _
          refine s_told (o := none) (q := q) rfl rfl rfl ⟨q, _, rfl, e10 _ _ hq9, TdL.ex e10 ⟨_, _, rfl, rfl, _, _, rfl, rfl, rfl⟩⟩ (hro9.ex e10) fun H11 e11 => ⟨_, _, _, _, _, _, _, _, _, _, _, _, _, rfl, ((e.trans e9).trans e10).trans e11⟩
        | error er =>
          have ho : o = some ((er.1 : Int), (er.2 : Int)) := (show toldI z = o from hto).symm.trans (by
            unfold toldI
            rw [hrd])
          subst ho
          intro dd H10 e10 _ hdd
          refine ⟨true, PySem.W.exm_ref T.sb_ShelfError T.hd_ShelfError T.ty_ShelfError T.sb_BadLine, fun _ ea hea => ?_, fun h => nomatch h⟩
          refine s_asgU (xs := [.int (er.1 : Int), .int (er.2 : Int)]) (eu_ifT (et_B (ev_isX rfl)) (eu_tup (ea_cons (ev_xf (ev_var rfl) hdd rfl) (ea_cons (ev_xf (ev_var rfl) hdd rfl) ea_nil)) (by simp))) fun q2 H11 _ e11 hq2 => ?_
          refine s_told (o := some ((er.1 : Int), (er.2 : Int))) (q := q2) rfl rfl rfl ⟨q2, _, rfl, hq2, ⟨_, _, rfl, rfl, _, _, rfl, rfl, rfl⟩⟩ (hro9.ex (e10.trans e11)) fun H12 e12 => ⟨_, _, _, _, _, _, _, _, _, _, _, _, _, rfl, (((e.trans e9).trans e10).trans e11).trans e12⟩
    rintro σ' H' ⟨y0, y1, y2, y3, y4, y5, y6, y7, z0, z1, z2, z3, z4, rfl, e⟩
    refine q_asg (v := .int 0) ev_c fun H9 e9 => ?_
    refine q_iter (R := BadR H9) (fun Q q => bad_mk Q q) fun v H10 hv10 => ?_
    obtain ⟨pb, qb, rb, rfl, e10, hpb, hqb, hrb⟩ := hv10
    refine q_forL ev_c (sq_of hpb) (fun i σ' H' => ∃ y0 y1 y2 y3 y4 y5 y6 y7 z0 z1 z2 z3 z4 z5 z6 : Option V, σ' = [y0, y1, y2, y3, y4, y5, y6, y7, z0, z1, z2, z3, z4, z5, some (.int (i : Nat)), z6] ∧ Ex H10 H')
      (fun H11 e11 => ⟨_, _, _, _, _, _, _, _, _, _, _, _, _, _, _, rfl, e11⟩) (fun i σ' H' _ ⟨_, _, _, _, _, _, _, _, _, _, _, _, _, _, _, _, e⟩ => sq_of (e _ _ hpb)) ?_ ?_
    · rintro i x σ' H' hx ⟨y0, y1, y2, y3, y4, y5, y6, y7, z0, z1, z2, z3, z4, z5, z6, rfl, e⟩
      obtain ⟨Ty, hty, hk⟩ := bad_at (K := K) hx (e _ _ hqb) (e _ _ hrb)
      refine ⟨_, rfl, .inr ⟨x, Ty, rfl, hty, hk, fun H11 e11 => ?_⟩⟩
      refine ⟨true, PySem.W.exm_ref T.sb_ShelfError T.hd_ShelfError T.ty_ShelfError T.sb_BadString, fun _ ea hea => ?_, fun h => nomatch h⟩
      refine s_asg (v := .int ((i : Nat) + 1 : Int)) (ev_op (ev_var rfl) (ev_int1B (b := true) (ev_isX rfl)) rv_I0) fun H12 e12 => ⟨_, _, _, _, _, _, _, _, _, _, _, _, _, _, _, rfl, (e.trans e11).trans e12⟩
    · rintro σ' H' ⟨y0, y1, y2, y3, y4, y5, y6, y7, z0, z1, z2, z3, z4, z5, z6, rfl, e⟩
      exact s_ret (v := .bl true) (ev_is (ev_op (ev_var rfl) ev_c (rv_eq rfl)) rfl) fun H11 e11 => k H11
end
end RS
end
section
set_option Elab.async false
set_option linter.all false
set_option maxRecDepth 100000
set_option maxHeartbeats 8000000
/-! W28: what the top has written, the head. -/
namespace RS
open PySem PySem.Spec PyProof.Rows L2 TL Evl
theorem signs_at {K : PySem.W.Frag} {a : Addr} {n t0 t1 u0 u1 : Nat} {h0 h1 : Int} (hl : K.lookup a = some ⟨.type "dict", none, .dict #[{ hash := h0, key := .str "+" t0, val := .str "plus" u0 }, { hash := h1, key := .str "-" t1, val := .str "minus" u1 }] n, #[]⟩) :
    ∀ z : Str, ∃ r, PySem.W.nsIn K a z = some r ∧ (match sgOf z with | some p => ∃ u, r = some u ∧ RelV (.str (sgn p)) u | none => r = none) := fun z => by
  unfold PySem.W.nsIn sgOf
  rw [hl]
  by_cases c1 : z = "+"
  · subst c1
    exact ⟨_, rfl, ⟨_, rfl, ⟨_, rfl⟩⟩⟩
  · by_cases c2 : z = "-"
    · subst c2
      exact ⟨_, rfl, ⟨_, rfl, ⟨_, rfl⟩⟩⟩
    · have e1 : (("+" : Str) == z) = false := beq_eq_false_iff_ne.mpr fun q => c1 q.symm
      have e2 : (("-" : Str) == z) = false := beq_eq_false_iff_ne.mpr fun q => c2 q.symm
      refine ⟨none, ?_, ?_⟩
      · show (match List.find? (fun e : DictEntry => e.key.isStr z) [{ hash := h0, key := .str "+" t0, val := .str "plus" u0 }, { hash := h1, key := .str "-" t1, val := .str "minus" u1 }] with | some e => some (some e.val) | none => _) = _
        rw [List.find?_cons_of_neg (by show ¬ (("+" : Str) == z) = true; rw [e1]; exact Bool.false_ne_true), List.find?_cons_of_neg (by show ¬ (("-" : Str) == z) = true; rw [e2]; exact Bool.false_ne_true), List.find?_nil]
        rfl
      · rw [if_neg c1, if_neg c2]
theorem tests_at {K : PySem.W.Frag} {a : Addr} {n t0 t1 : Nat} {h0 h1 : Int} (hl : K.lookup a = some ⟨.type "dict", none, .dict #[{ hash := h0, key := .str "=" t0, val := .bool true }, { hash := h1, key := .str "!=" t1, val := .bool false }] n, #[]⟩) :
    ∀ z : Str, ∃ r, PySem.W.nsIn K a z = some r ∧ (match tsOf z with | some p => ∃ u, r = some u ∧ RelV (.bl p) u | none => r = none) := fun z => by
  unfold PySem.W.nsIn tsOf
  rw [hl]
  by_cases c1 : z = "="
  · subst c1
    exact ⟨_, rfl, ⟨_, rfl, rfl⟩⟩
  · by_cases c2 : z = "!="
    · subst c2
      exact ⟨_, rfl, ⟨_, rfl, rfl⟩⟩
    · have e1 : (("=" : Str) == z) = false := beq_eq_false_iff_ne.mpr fun q => c1 q.symm
      have e2 : (("!=" : Str) == z) = false := beq_eq_false_iff_ne.mpr fun q => c2 q.symm
      refine ⟨none, ?_, ?_⟩
      · show (match List.find? (fun e : DictEntry => e.key.isStr z) [{ hash := h0, key := .str "=" t0, val := .bool true }, { hash := h1, key := .str "!=" t1, val := .bool false }] with | some e => some (some e.val) | none => _) = _
        rw [List.find?_cons_of_neg (by show ¬ (("=" : Str) == z) = true; rw [e1]; exact Bool.false_ne_true), List.find?_cons_of_neg (by show ¬ (("!=" : Str) == z) = true; rw [e2]; exact Bool.false_ne_true), List.find?_nil]
        rfl
      · rw [if_neg c1, if_neg c2]
theorem all_mk {l : PySem.W.OpenLaw} {w : World} {K : PySem.W.Frag} {h : Heap} {mg : Str → Option Value} {fa : Addr} (X : K.In h) (G : h.Ns mainGlobals mg) (hfa : mg "law" = some (.ref fa))
    {t_MOST_PLACES : Tok} {t_MOST_LETTERS : Tok} {t_MOST_CONSTANT : Tok} {t_MOST_DEPTH : Tok} {t_MOST_PARTS : Tok} {t_MOST_TERMS : Tok} {t_MOST_ROUNDS : Tok} {t_MOST_PROCEDURES : Tok} {t_LETTERS : Tok} {t_FIGURES : Tok} {kp : Addr} {kt0 : Tok} {kt1 : Tok} {kt2 : Tok} {kt3 : Tok} {kt4 : Tok} {kt5 : Tok} {kt6 : Tok} {kt7 : Tok} {kt8 : Tok} {kt9 : Tok} {kt10 : Tok} {kt11 : Tok} {kdd : Option Addr} {kn : Nat} {ksl : Array (Option Value)} {signs : Addr} {signsN : Nat} {signst0 : Tok} {signsu0 : Tok} {signst1 : Tok} {signsu1 : Tok} {tests : Addr} {testsN : Nat} {testst0 : Tok} {testst1 : Tok} {cS : Addr} {cO : Addr} {cR : Addr} {cE : Addr} {cBS : Addr} {cBL : Addr} {cBB : Addr} {f_BadLine___init__ : Addr} {od_BadLine___init__ : Option Addr} {an_BadLine___init__ : Option Addr} {sl_BadLine___init__ : Array (Option Value)} {oc_BadLine___init__ : Value} {kV_BadLine___init__ : Value} {dc_BadLine___init__ : Value} {pm_BadLine___init__ : Value} {cd_BadLine___init__ : Value} {ct_BadLine___init__ : Value} {f_is_number : Addr} {od_is_number : Option Addr} {an_is_number : Option Addr} {sl_is_number : Array (Option Value)} {oc_is_number : Value} {kV_is_number : Value} {dc_is_number : Value} {pm_is_number : Value} {cd_is_number : Value} {ct_is_number : Value} {f_is_name : Addr} {od_is_name : Option Addr} {an_is_name : Option Addr} {sl_is_name : Array (Option Value)} {oc_is_name : Value} {kV_is_name : Value} {dc_is_name : Value} {pm_is_name : Value} {cd_is_name : Value} {ct_is_name : Value} {f_are_unlike_names : Addr} {od_are_unlike_names : Option Addr} {an_are_unlike_names : Option Addr} {sl_are_unlike_names : Array (Option Value)} {oc_are_unlike_names : Value} {kV_are_unlike_names : Value} {dc_are_unlike_names : Value} {pm_are_unlike_names : Value} {cd_are_unlike_names : Value} {ct_are_unlike_names : Value} {f_is_sum : Addr} {od_is_sum : Option Addr} {an_is_sum : Option Addr} {sl_is_sum : Array (Option Value)} {oc_is_sum : Value} {kV_is_sum : Value} {dc_is_sum : Value} {pm_is_sum : Value} {cd_is_sum : Value} {ct_is_sum : Value} {dT_is_sum : Addr} {do_is_sum : Value} {dd_is_sum : Option Addr} {dn_is_sum : Nat} {ds_is_sum : Array (Option Value)} {e0_is_sum : Tok} {f_terms_in : Addr} {od_terms_in : Option Addr} {an_terms_in : Option Addr} {sl_terms_in : Array (Option Value)} {oc_terms_in : Value} {kV_terms_in : Value} {dc_terms_in : Value} {pm_terms_in : Value} {cd_terms_in : Value} {ct_terms_in : Value} {f_is_whole_sum : Addr} {od_is_whole_sum : Option Addr} {an_is_whole_sum : Option Addr} {sl_is_whole_sum : Array (Option Value)} {oc_is_whole_sum : Value} {kV_is_whole_sum : Value} {dc_is_whole_sum : Value} {pm_is_whole_sum : Value} {cd_is_whole_sum : Value} {ct_is_whole_sum : Value} {f_is_test : Addr} {od_is_test : Option Addr} {an_is_test : Option Addr} {sl_is_test : Array (Option Value)} {oc_is_test : Value} {kV_is_test : Value} {dc_is_test : Value} {pm_is_test : Value} {cd_is_test : Value} {ct_is_test : Value} {f_is_part : Addr} {od_is_part : Option Addr} {an_is_part : Option Addr} {sl_is_part : Array (Option Value)} {oc_is_part : Value} {kV_is_part : Value} {dc_is_part : Value} {pm_is_part : Value} {cd_is_part : Value} {ct_is_part : Value} {f_is_block : Addr} {od_is_block : Option Addr} {an_is_block : Option Addr} {sl_is_block : Array (Option Value)} {oc_is_block : Value} {kV_is_block : Value} {dc_is_block : Value} {pm_is_block : Value} {cd_is_block : Value} {ct_is_block : Value} {f_blocks_in : Addr} {od_blocks_in : Option Addr} {an_blocks_in : Option Addr} {sl_blocks_in : Array (Option Value)} {oc_blocks_in : Value} {kV_blocks_in : Value} {dc_blocks_in : Value} {pm_blocks_in : Value} {cd_blocks_in : Value} {ct_blocks_in : Value} {f_parts_in : Addr} {od_parts_in : Option Addr} {an_parts_in : Option Addr} {sl_parts_in : Array (Option Value)} {oc_parts_in : Value} {kV_parts_in : Value} {dc_parts_in : Value} {pm_parts_in : Value} {cd_parts_in : Value} {ct_parts_in : Value} {f_need_block_program : Addr} {od_need_block_program : Option Addr} {an_need_block_program : Option Addr} {sl_need_block_program : Array (Option Value)} {oc_need_block_program : Value} {kV_need_block_program : Value} {dc_need_block_program : Value} {pm_need_block_program : Value} {cd_need_block_program : Value} {ct_need_block_program : Value} {f_sum_words : Addr} {od_sum_words : Option Addr} {an_sum_words : Option Addr} {sl_sum_words : Array (Option Value)} {oc_sum_words : Value} {kV_sum_words : Value} {dc_sum_words : Value} {pm_sum_words : Value} {cd_sum_words : Value} {ct_sum_words : Value} {dT_sum_words : Addr} {do_sum_words : Value} {dd_sum_words : Option Addr} {dn_sum_words : Nat} {ds_sum_words : Array (Option Value)} {f_test_words : Addr} {od_test_words : Option Addr} {an_test_words : Option Addr} {sl_test_words : Array (Option Value)} {oc_test_words : Value} {kV_test_words : Value} {dc_test_words : Value} {pm_test_words : Value} {cd_test_words : Value} {ct_test_words : Value} {f_lines_of : Addr} {od_lines_of : Option Addr} {an_lines_of : Option Addr} {sl_lines_of : Array (Option Value)} {oc_lines_of : Value} {kV_lines_of : Value} {dc_lines_of : Value} {pm_lines_of : Value} {cd_lines_of : Value} {ct_lines_of : Value} {f_write_blocks : Addr} {od_write_blocks : Option Addr} {an_write_blocks : Option Addr} {sl_write_blocks : Array (Option Value)} {oc_write_blocks : Value} {kV_write_blocks : Value} {dc_write_blocks : Value} {pm_write_blocks : Value} {cd_write_blocks : Value} {ct_write_blocks : Value} {f_number_in : Addr} {od_number_in : Option Addr} {an_number_in : Option Addr} {sl_number_in : Array (Option Value)} {oc_number_in : Value} {kV_number_in : Value} {dc_number_in : Value} {pm_number_in : Value} {cd_number_in : Value} {ct_number_in : Value} {f_Sums___init__ : Addr} {od_Sums___init__ : Option Addr} {an_Sums___init__ : Option Addr} {sl_Sums___init__ : Array (Option Value)} {oc_Sums___init__ : Value} {kV_Sums___init__ : Value} {dc_Sums___init__ : Value} {pm_Sums___init__ : Value} {cd_Sums___init__ : Value} {ct_Sums___init__ : Value} {f_Sums_fail : Addr} {od_Sums_fail : Option Addr} {an_Sums_fail : Option Addr} {sl_Sums_fail : Array (Option Value)} {oc_Sums_fail : Value} {kV_Sums_fail : Value} {dc_Sums_fail : Value} {pm_Sums_fail : Value} {cd_Sums_fail : Value} {ct_Sums_fail : Value} {f_Sums_one : Addr} {od_Sums_one : Option Addr} {an_Sums_one : Option Addr} {sl_Sums_one : Array (Option Value)} {oc_Sums_one : Value} {kV_Sums_one : Value} {dc_Sums_one : Value} {pm_Sums_one : Value} {cd_Sums_one : Value} {ct_Sums_one : Value} {f_Sums_whole : Addr} {od_Sums_whole : Option Addr} {an_Sums_whole : Option Addr} {sl_Sums_whole : Array (Option Value)} {oc_Sums_whole : Value} {kV_Sums_whole : Value} {dc_Sums_whole : Value} {pm_Sums_whole : Value} {cd_Sums_whole : Value} {ct_Sums_whole : Value} {f_deep : Addr} {od_deep : Option Addr} {an_deep : Option Addr} {sl_deep : Array (Option Value)} {oc_deep : Value} {kV_deep : Value} {dc_deep : Value} {pm_deep : Value} {cd_deep : Value} {ct_deep : Value} {f_Open___init__ : Addr} {od_Open___init__ : Option Addr} {an_Open___init__ : Option Addr} {sl_Open___init__ : Array (Option Value)} {oc_Open___init__ : Value} {kV_Open___init__ : Value} {dc_Open___init__ : Value} {pm_Open___init__ : Value} {cd_Open___init__ : Value} {ct_Open___init__ : Value} {dT_Open___init__ : Addr} {do_Open___init__ : Value} {dd_Open___init__ : Option Addr} {dn_Open___init__ : Nat} {ds_Open___init__ : Array (Option Value)} {f_Reader___init__ : Addr} {od_Reader___init__ : Option Addr} {an_Reader___init__ : Option Addr} {sl_Reader___init__ : Array (Option Value)} {oc_Reader___init__ : Value} {kV_Reader___init__ : Value} {dc_Reader___init__ : Value} {pm_Reader___init__ : Value} {cd_Reader___init__ : Value} {ct_Reader___init__ : Value} {f_Reader_fail : Addr} {od_Reader_fail : Option Addr} {an_Reader_fail : Option Addr} {sl_Reader_fail : Array (Option Value)} {oc_Reader_fail : Value} {kV_Reader_fail : Value} {dc_Reader_fail : Value} {pm_Reader_fail : Value} {cd_Reader_fail : Value} {ct_Reader_fail : Value} {f_Reader_need_size : Addr} {od_Reader_need_size : Option Addr} {an_Reader_need_size : Option Addr} {sl_Reader_need_size : Array (Option Value)} {oc_Reader_need_size : Value} {kV_Reader_need_size : Value} {dc_Reader_need_size : Value} {pm_Reader_need_size : Value} {cd_Reader_need_size : Value} {ct_Reader_need_size : Value} {f_Reader_known : Addr} {od_Reader_known : Option Addr} {an_Reader_known : Option Addr} {sl_Reader_known : Array (Option Value)} {oc_Reader_known : Value} {kV_Reader_known : Value} {dc_Reader_known : Value} {pm_Reader_known : Value} {cd_Reader_known : Value} {ct_Reader_known : Value} {f_Reader_take : Addr} {od_Reader_take : Option Addr} {an_Reader_take : Option Addr} {sl_Reader_take : Array (Option Value)} {oc_Reader_take : Value} {kV_Reader_take : Value} {dc_Reader_take : Value} {pm_Reader_take : Value} {cd_Reader_take : Value} {ct_Reader_take : Value} {f_Reader_take_names : Addr} {od_Reader_take_names : Option Addr} {an_Reader_take_names : Option Addr} {sl_Reader_take_names : Array (Option Value)} {oc_Reader_take_names : Value} {kV_Reader_take_names : Value} {dc_Reader_take_names : Value} {pm_Reader_take_names : Value} {cd_Reader_take_names : Value} {ct_Reader_take_names : Value} {f_Reader_take_procedure : Addr} {od_Reader_take_procedure : Option Addr} {an_Reader_take_procedure : Option Addr} {sl_Reader_take_procedure : Array (Option Value)} {oc_Reader_take_procedure : Value} {kV_Reader_take_procedure : Value} {dc_Reader_take_procedure : Value} {pm_Reader_take_procedure : Value} {cd_Reader_take_procedure : Value} {ct_Reader_take_procedure : Value} {f_Reader_take_turn : Addr} {od_Reader_take_turn : Option Addr} {an_Reader_take_turn : Option Addr} {sl_Reader_take_turn : Array (Option Value)} {oc_Reader_take_turn : Value} {kV_Reader_take_turn : Value} {dc_Reader_take_turn : Value} {pm_Reader_take_turn : Value} {cd_Reader_take_turn : Value} {ct_Reader_take_turn : Value} {f_Reader_close : Addr} {od_Reader_close : Option Addr} {an_Reader_close : Option Addr} {sl_Reader_close : Array (Option Value)} {oc_Reader_close : Value} {kV_Reader_close : Value} {dc_Reader_close : Value} {pm_Reader_close : Value} {cd_Reader_close : Value} {ct_Reader_close : Value} {f_Reader_depth : Addr} {od_Reader_depth : Option Addr} {an_Reader_depth : Option Addr} {sl_Reader_depth : Array (Option Value)} {oc_Reader_depth : Value} {kV_Reader_depth : Value} {dc_Reader_depth : Value} {pm_Reader_depth : Value} {cd_Reader_depth : Value} {ct_Reader_depth : Value} {f_Reader_take_part : Addr} {od_Reader_take_part : Option Addr} {an_Reader_take_part : Option Addr} {sl_Reader_take_part : Array (Option Value)} {oc_Reader_take_part : Value} {kV_Reader_take_part : Value} {dc_Reader_take_part : Value} {pm_Reader_take_part : Value} {cd_Reader_take_part : Value} {ct_Reader_take_part : Value} {f_Reader_small_part : Addr} {od_Reader_small_part : Option Addr} {an_Reader_small_part : Option Addr} {sl_Reader_small_part : Array (Option Value)} {oc_Reader_small_part : Value} {kV_Reader_small_part : Value} {dc_Reader_small_part : Value} {pm_Reader_small_part : Value} {cd_Reader_small_part : Value} {ct_Reader_small_part : Value} {f_Reader_sum_to_end : Addr} {od_Reader_sum_to_end : Option Addr} {an_Reader_sum_to_end : Option Addr} {sl_Reader_sum_to_end : Array (Option Value)} {oc_Reader_sum_to_end : Value} {kV_Reader_sum_to_end : Value} {dc_Reader_sum_to_end : Value} {pm_Reader_sum_to_end : Value} {cd_Reader_sum_to_end : Value} {ct_Reader_sum_to_end : Value} {f_Reader_test_of : Addr} {od_Reader_test_of : Option Addr} {an_Reader_test_of : Option Addr} {sl_Reader_test_of : Array (Option Value)} {oc_Reader_test_of : Value} {kV_Reader_test_of : Value} {dc_Reader_test_of : Value} {pm_Reader_test_of : Value} {cd_Reader_test_of : Value} {ct_Reader_test_of : Value} {f_read_blocks : Addr} {od_read_blocks : Option Addr} {an_read_blocks : Option Addr} {sl_read_blocks : Array (Option Value)} {oc_read_blocks : Value} {kV_read_blocks : Value} {dc_read_blocks : Value} {pm_read_blocks : Value} {cd_read_blocks : Value} {ct_read_blocks : Value} {f__law_taken : Addr} {od__law_taken : Option Addr} {an__law_taken : Option Addr} {sl__law_taken : Array (Option Value)} {oc__law_taken : Value} {kV__law_taken : Value} {dc__law_taken : Value} {pm__law_taken : Value} {cd__law_taken : Value} {ct__law_taken : Value} {f__law_pick : Addr} {od__law_pick : Option Addr} {an__law_pick : Option Addr} {sl__law_pick : Array (Option Value)} {oc__law_pick : Value} {kV__law_pick : Value} {dc__law_pick : Value} {pm__law_pick : Value} {cd__law_pick : Value} {ct__law_pick : Value} {f__law_sum : Addr} {od__law_sum : Option Addr} {an__law_sum : Option Addr} {sl__law_sum : Array (Option Value)} {oc__law_sum : Value} {kV__law_sum : Value} {dc__law_sum : Value} {pm__law_sum : Value} {cd__law_sum : Value} {ct__law_sum : Value} {f__law_block : Addr} {od__law_block : Option Addr} {an__law_block : Option Addr} {sl__law_block : Array (Option Value)} {oc__law_block : Value} {kV__law_block : Value} {dc__law_block : Value} {pm__law_block : Value} {cd__law_block : Value} {ct__law_block : Value} {f__law_parts : Addr} {od__law_parts : Option Addr} {an__law_parts : Option Addr} {sl__law_parts : Array (Option Value)} {oc__law_parts : Value} {kV__law_parts : Value} {dc__law_parts : Value} {pm__law_parts : Value} {cd__law_parts : Value} {ct__law_parts : Value} {f__law_program : Addr} {od__law_program : Option Addr} {an__law_program : Option Addr} {sl__law_program : Array (Option Value)} {oc__law_program : Value} {kV__law_program : Value} {dc__law_program : Value} {pm__law_program : Value} {cd__law_program : Value} {ct__law_program : Value} {f__law_sum_text : Addr} {od__law_sum_text : Option Addr} {an__law_sum_text : Option Addr} {sl__law_sum_text : Array (Option Value)} {oc__law_sum_text : Value} {kV__law_sum_text : Value} {dc__law_sum_text : Value} {pm__law_sum_text : Value} {cd__law_sum_text : Value} {ct__law_sum_text : Value} {f__law_lines : Addr} {od__law_lines : Option Addr} {an__law_lines : Option Addr} {sl__law_lines : Array (Option Value)} {oc__law_lines : Value} {kV__law_lines : Value} {dc__law_lines : Value} {pm__law_lines : Value} {cd__law_lines : Value} {ct__law_lines : Value} {f__law_alike : Addr} {od__law_alike : Option Addr} {an__law_alike : Option Addr} {sl__law_alike : Array (Option Value)} {oc__law_alike : Value} {kV__law_alike : Value} {dc__law_alike : Value} {pm__law_alike : Value} {cd__law_alike : Value} {ct__law_alike : Value} {f_law : Addr} {od_law : Option Addr} {an_law : Option Addr} {sl_law : Array (Option Value)} {oc_law : Value} {kV_law : Value} {dc_law : Value} {pm_law : Value} {cd_law : Value} {ct_law : Value} {xnm : Str} {xq : Str} {xN : Addr} {xbs : List Value} {xsn : List Str} {xsub : List Value} {xab : Bool} {xcol : Option Bool} {xdd : Option Addr} {xk0 : Option Value} {xk1 : Option Value} {xk2 : Option Value} {xk3 : Option Value} {xk5 : Option Value}
    (zb_len : PySem.W.nsIn K mainGlobals "len" = some none)
    (zb_isinstance : PySem.W.nsIn K mainGlobals "isinstance" = some none)
    (zb_str : PySem.W.nsIn K mainGlobals "str" = some none)
    (zb_tuple : PySem.W.nsIn K mainGlobals "tuple" = some none)
    (zb_list : PySem.W.nsIn K mainGlobals "list" = some none)
    (zb_int : PySem.W.nsIn K mainGlobals "int" = some none)
    (zb_set : PySem.W.nsIn K mainGlobals "set" = some none)
    (zb_sum : PySem.W.nsIn K mainGlobals "sum" = some none)
    (zb_max : PySem.W.nsIn K mainGlobals "max" = some none)
    (zb_range : PySem.W.nsIn K mainGlobals "range" = some none)
    (zb_enumerate : PySem.W.nsIn K mainGlobals "enumerate" = some none)
    (zb_bool : PySem.W.nsIn K mainGlobals "bool" = some none)
    (v_MOST_PLACES : PySem.W.nsIn K mainGlobals "MOST_PLACES" = some (some (.int 5 t_MOST_PLACES)))
    (v_MOST_LETTERS : PySem.W.nsIn K mainGlobals "MOST_LETTERS" = some (some (.int 8 t_MOST_LETTERS)))
    (v_MOST_CONSTANT : PySem.W.nsIn K mainGlobals "MOST_CONSTANT" = some (some (.int 1000 t_MOST_CONSTANT)))
    (v_MOST_DEPTH : PySem.W.nsIn K mainGlobals "MOST_DEPTH" = some (some (.int 6 t_MOST_DEPTH)))
    (v_MOST_PARTS : PySem.W.nsIn K mainGlobals "MOST_PARTS" = some (some (.int 60 t_MOST_PARTS)))
    (v_MOST_TERMS : PySem.W.nsIn K mainGlobals "MOST_TERMS" = some (some (.int 24 t_MOST_TERMS)))
    (v_MOST_ROUNDS : PySem.W.nsIn K mainGlobals "MOST_ROUNDS" = some (some (.int 6 t_MOST_ROUNDS)))
    (v_MOST_PROCEDURES : PySem.W.nsIn K mainGlobals "MOST_PROCEDURES" = some (some (.int 4 t_MOST_PROCEDURES)))
    (v_LETTERS : PySem.W.nsIn K mainGlobals "LETTERS" = some (some (.str "abcdefghijklmnopqrstuvwxyz" t_LETTERS)))
    (v_FIGURES : PySem.W.nsIn K mainGlobals "FIGURES" = some (some (.str "0123456789" t_FIGURES)))
    (v_KEPT : PySem.W.nsIn K mainGlobals "KEPT_WORDS" = some (some (.ref kp)))
    (l_KEPT : K.lookup kp = some ⟨.type "tuple", kdd, .seq #[.str "names" kt0, .str "to" kt1, .str "end" kt2, .str "let" kt3, .str "say" kt4, .str "ask" kt5, .str "if" kt6, .str "else" kt7, .str "while" kt8, .str "repeat" kt9, .str "do" kt10, .str "stop" kt11] kn, ksl⟩)
    (v_signs : PySem.W.nsIn K mainGlobals "SIGNS" = some (some (.ref signs)))
    (l_signs : K.lookup signs = some ⟨.type "dict", none, .dict #[{ hash := PyData.keyHash w.params "+", key := .str "+" signst0, val := .str "plus" signsu0 }, { hash := PyData.keyHash w.params "-", key := .str "-" signst1, val := .str "minus" signsu1 }] signsN, #[]⟩)
    (s_signs : (signs == sysModules) = false)
    (v_tests : PySem.W.nsIn K mainGlobals "TESTS" = some (some (.ref tests)))
    (l_tests : K.lookup tests = some ⟨.type "dict", none, .dict #[{ hash := PyData.keyHash w.params "=", key := .str "=" testst0, val := .bool true }, { hash := PyData.keyHash w.params "!=", key := .str "!=" testst1, val := .bool false }] testsN, #[]⟩)
    (s_tests : (tests == sysModules) = false)
    (a_Sums : PySem.W.nsIn K mainGlobals "Sums" = some (some (.ref cS)))
    (a_Open : PySem.W.nsIn K mainGlobals "Open" = some (some (.ref cO)))
    (a_Reader : PySem.W.nsIn K mainGlobals "Reader" = some (some (.ref cR)))
    (a_ShelfError : PySem.W.nsIn K mainGlobals "ShelfError" = some (some (.ref cE)))
    (a_BadString : PySem.W.nsIn K mainGlobals "BadString" = some (some (.ref cBS)))
    (a_BadLine : PySem.W.nsIn K mainGlobals "BadLine" = some (some (.ref cBL)))
    (a_BadBlock : PySem.W.nsIn K mainGlobals "BadBlock" = some (some (.ref cBB)))
    (a_BadLine___init__ : PySem.W.findIn K (.ref cBL) "__init__" = some (some (.ref f_BadLine___init__)))
    (i_BadLine___init__ : PySem.W.typeIn K (.ref f_BadLine___init__) = some (.type "function"))
    (l_BadLine___init__ : K.lookup f_BadLine___init__ = some ⟨oc_BadLine___init__, od_BadLine___init__, .func (PySem.W.fnOf "__init__" "BadLine.__init__" (defArgs st_BadLine___init__) (defBody st_BadLine___init__) (defScope st_BadLine___init__) .none kV_BadLine___init__ dc_BadLine___init__ pm_BadLine___init__ an_BadLine___init__ cd_BadLine___init__ ct_BadLine___init__), sl_BadLine___init__⟩)
    (q_BadLine___init__ : PySem.W.codeIn K cd_BadLine___init__ "BadLine.__init__" = true)
    (k_BadLine___init__ : PySem.W.keepIn K (.ref f_BadLine___init__) = true)
    (a_is_number : PySem.W.nsIn K mainGlobals "is_number" = some (some (.ref f_is_number)))
    (l_is_number : K.lookup f_is_number = some ⟨oc_is_number, od_is_number, .func (PySem.W.fnOf "is_number" "is_number" (defArgs st_is_number) (defBody st_is_number) (defScope st_is_number) .none kV_is_number dc_is_number pm_is_number an_is_number cd_is_number ct_is_number), sl_is_number⟩)
    (q_is_number : PySem.W.codeIn K cd_is_number "is_number" = true)
    (k_is_number : PySem.W.keepIn K (.ref f_is_number) = true)
    (a_is_name : PySem.W.nsIn K mainGlobals "is_name" = some (some (.ref f_is_name)))
    (l_is_name : K.lookup f_is_name = some ⟨oc_is_name, od_is_name, .func (PySem.W.fnOf "is_name" "is_name" (defArgs st_is_name) (defBody st_is_name) (defScope st_is_name) .none kV_is_name dc_is_name pm_is_name an_is_name cd_is_name ct_is_name), sl_is_name⟩)
    (q_is_name : PySem.W.codeIn K cd_is_name "is_name" = true)
    (k_is_name : PySem.W.keepIn K (.ref f_is_name) = true)
    (a_are_unlike_names : PySem.W.nsIn K mainGlobals "are_unlike_names" = some (some (.ref f_are_unlike_names)))
    (l_are_unlike_names : K.lookup f_are_unlike_names = some ⟨oc_are_unlike_names, od_are_unlike_names, .func (PySem.W.fnOf "are_unlike_names" "are_unlike_names" (defArgs st_are_unlike_names) (defBody st_are_unlike_names) (defScope st_are_unlike_names) .none kV_are_unlike_names dc_are_unlike_names pm_are_unlike_names an_are_unlike_names cd_are_unlike_names ct_are_unlike_names), sl_are_unlike_names⟩)
    (q_are_unlike_names : PySem.W.codeIn K cd_are_unlike_names "are_unlike_names" = true)
    (k_are_unlike_names : PySem.W.keepIn K (.ref f_are_unlike_names) = true)
    (a_is_sum : PySem.W.nsIn K mainGlobals "is_sum" = some (some (.ref f_is_sum)))
    (l_is_sum : K.lookup f_is_sum = some ⟨oc_is_sum, od_is_sum, .func (PySem.W.fnOf "is_sum" "is_sum" (defArgs st_is_sum) (defBody st_is_sum) (defScope st_is_sum) (.ref dT_is_sum) kV_is_sum dc_is_sum pm_is_sum an_is_sum cd_is_sum ct_is_sum), sl_is_sum⟩)
    (q_is_sum : PySem.W.codeIn K cd_is_sum "is_sum" = true)
    (k_is_sum : PySem.W.keepIn K (.ref f_is_sum) = true)
    (e_is_sum : K.lookup dT_is_sum = some ⟨do_is_sum, dd_is_sum, .seq #[.int 1 e0_is_sum] dn_is_sum, ds_is_sum⟩)
    (a_terms_in : PySem.W.nsIn K mainGlobals "terms_in" = some (some (.ref f_terms_in)))
    (l_terms_in : K.lookup f_terms_in = some ⟨oc_terms_in, od_terms_in, .func (PySem.W.fnOf "terms_in" "terms_in" (defArgs st_terms_in) (defBody st_terms_in) (defScope st_terms_in) .none kV_terms_in dc_terms_in pm_terms_in an_terms_in cd_terms_in ct_terms_in), sl_terms_in⟩)
    (q_terms_in : PySem.W.codeIn K cd_terms_in "terms_in" = true)
    (k_terms_in : PySem.W.keepIn K (.ref f_terms_in) = true)
    (a_is_whole_sum : PySem.W.nsIn K mainGlobals "is_whole_sum" = some (some (.ref f_is_whole_sum)))
    (l_is_whole_sum : K.lookup f_is_whole_sum = some ⟨oc_is_whole_sum, od_is_whole_sum, .func (PySem.W.fnOf "is_whole_sum" "is_whole_sum" (defArgs st_is_whole_sum) (defBody st_is_whole_sum) (defScope st_is_whole_sum) .none kV_is_whole_sum dc_is_whole_sum pm_is_whole_sum an_is_whole_sum cd_is_whole_sum ct_is_whole_sum), sl_is_whole_sum⟩)
    (q_is_whole_sum : PySem.W.codeIn K cd_is_whole_sum "is_whole_sum" = true)
    (k_is_whole_sum : PySem.W.keepIn K (.ref f_is_whole_sum) = true)
    (a_is_test : PySem.W.nsIn K mainGlobals "is_test" = some (some (.ref f_is_test)))
    (l_is_test : K.lookup f_is_test = some ⟨oc_is_test, od_is_test, .func (PySem.W.fnOf "is_test" "is_test" (defArgs st_is_test) (defBody st_is_test) (defScope st_is_test) .none kV_is_test dc_is_test pm_is_test an_is_test cd_is_test ct_is_test), sl_is_test⟩)
    (q_is_test : PySem.W.codeIn K cd_is_test "is_test" = true)
    (k_is_test : PySem.W.keepIn K (.ref f_is_test) = true)
    (a_is_part : PySem.W.nsIn K mainGlobals "is_part" = some (some (.ref f_is_part)))
    (l_is_part : K.lookup f_is_part = some ⟨oc_is_part, od_is_part, .func (PySem.W.fnOf "is_part" "is_part" (defArgs st_is_part) (defBody st_is_part) (defScope st_is_part) .none kV_is_part dc_is_part pm_is_part an_is_part cd_is_part ct_is_part), sl_is_part⟩)
    (q_is_part : PySem.W.codeIn K cd_is_part "is_part" = true)
    (k_is_part : PySem.W.keepIn K (.ref f_is_part) = true)
    (a_is_block : PySem.W.nsIn K mainGlobals "is_block" = some (some (.ref f_is_block)))
    (l_is_block : K.lookup f_is_block = some ⟨oc_is_block, od_is_block, .func (PySem.W.fnOf "is_block" "is_block" (defArgs st_is_block) (defBody st_is_block) (defScope st_is_block) .none kV_is_block dc_is_block pm_is_block an_is_block cd_is_block ct_is_block), sl_is_block⟩)
    (q_is_block : PySem.W.codeIn K cd_is_block "is_block" = true)
    (k_is_block : PySem.W.keepIn K (.ref f_is_block) = true)
    (a_blocks_in : PySem.W.nsIn K mainGlobals "blocks_in" = some (some (.ref f_blocks_in)))
    (l_blocks_in : K.lookup f_blocks_in = some ⟨oc_blocks_in, od_blocks_in, .func (PySem.W.fnOf "blocks_in" "blocks_in" (defArgs st_blocks_in) (defBody st_blocks_in) (defScope st_blocks_in) .none kV_blocks_in dc_blocks_in pm_blocks_in an_blocks_in cd_blocks_in ct_blocks_in), sl_blocks_in⟩)
    (q_blocks_in : PySem.W.codeIn K cd_blocks_in "blocks_in" = true)
    (k_blocks_in : PySem.W.keepIn K (.ref f_blocks_in) = true)
    (a_parts_in : PySem.W.nsIn K mainGlobals "parts_in" = some (some (.ref f_parts_in)))
    (l_parts_in : K.lookup f_parts_in = some ⟨oc_parts_in, od_parts_in, .func (PySem.W.fnOf "parts_in" "parts_in" (defArgs st_parts_in) (defBody st_parts_in) (defScope st_parts_in) .none kV_parts_in dc_parts_in pm_parts_in an_parts_in cd_parts_in ct_parts_in), sl_parts_in⟩)
    (q_parts_in : PySem.W.codeIn K cd_parts_in "parts_in" = true)
    (k_parts_in : PySem.W.keepIn K (.ref f_parts_in) = true)
    (a_need_block_program : PySem.W.nsIn K mainGlobals "need_block_program" = some (some (.ref f_need_block_program)))
    (l_need_block_program : K.lookup f_need_block_program = some ⟨oc_need_block_program, od_need_block_program, .func (PySem.W.fnOf "need_block_program" "need_block_program" (defArgs st_need_block_program) (defBody st_need_block_program) (defScope st_need_block_program) .none kV_need_block_program dc_need_block_program pm_need_block_program an_need_block_program cd_need_block_program ct_need_block_program), sl_need_block_program⟩)
    (q_need_block_program : PySem.W.codeIn K cd_need_block_program "need_block_program" = true)
    (k_need_block_program : PySem.W.keepIn K (.ref f_need_block_program) = true)
    (a_sum_words : PySem.W.nsIn K mainGlobals "sum_words" = some (some (.ref f_sum_words)))
    (l_sum_words : K.lookup f_sum_words = some ⟨oc_sum_words, od_sum_words, .func (PySem.W.fnOf "sum_words" "sum_words" (defArgs st_sum_words) (defBody st_sum_words) (defScope st_sum_words) (.ref dT_sum_words) kV_sum_words dc_sum_words pm_sum_words an_sum_words cd_sum_words ct_sum_words), sl_sum_words⟩)
    (q_sum_words : PySem.W.codeIn K cd_sum_words "sum_words" = true)
    (k_sum_words : PySem.W.keepIn K (.ref f_sum_words) = true)
    (e_sum_words : K.lookup dT_sum_words = some ⟨do_sum_words, dd_sum_words, .seq #[.bool false] dn_sum_words, ds_sum_words⟩)
    (a_test_words : PySem.W.nsIn K mainGlobals "test_words" = some (some (.ref f_test_words)))
    (l_test_words : K.lookup f_test_words = some ⟨oc_test_words, od_test_words, .func (PySem.W.fnOf "test_words" "test_words" (defArgs st_test_words) (defBody st_test_words) (defScope st_test_words) .none kV_test_words dc_test_words pm_test_words an_test_words cd_test_words ct_test_words), sl_test_words⟩)
    (q_test_words : PySem.W.codeIn K cd_test_words "test_words" = true)
    (k_test_words : PySem.W.keepIn K (.ref f_test_words) = true)
    (a_lines_of : PySem.W.nsIn K mainGlobals "lines_of" = some (some (.ref f_lines_of)))
    (l_lines_of : K.lookup f_lines_of = some ⟨oc_lines_of, od_lines_of, .func (PySem.W.fnOf "lines_of" "lines_of" (defArgs st_lines_of) (defBody st_lines_of) (defScope st_lines_of) .none kV_lines_of dc_lines_of pm_lines_of an_lines_of cd_lines_of ct_lines_of), sl_lines_of⟩)
    (q_lines_of : PySem.W.codeIn K cd_lines_of "lines_of" = true)
    (k_lines_of : PySem.W.keepIn K (.ref f_lines_of) = true)
    (a_write_blocks : PySem.W.nsIn K mainGlobals "write_blocks" = some (some (.ref f_write_blocks)))
    (l_write_blocks : K.lookup f_write_blocks = some ⟨oc_write_blocks, od_write_blocks, .func (PySem.W.fnOf "write_blocks" "write_blocks" (defArgs st_write_blocks) (defBody st_write_blocks) (defScope st_write_blocks) .none kV_write_blocks dc_write_blocks pm_write_blocks an_write_blocks cd_write_blocks ct_write_blocks), sl_write_blocks⟩)
    (q_write_blocks : PySem.W.codeIn K cd_write_blocks "write_blocks" = true)
    (k_write_blocks : PySem.W.keepIn K (.ref f_write_blocks) = true)
    (a_number_in : PySem.W.nsIn K mainGlobals "number_in" = some (some (.ref f_number_in)))
    (l_number_in : K.lookup f_number_in = some ⟨oc_number_in, od_number_in, .func (PySem.W.fnOf "number_in" "number_in" (defArgs st_number_in) (defBody st_number_in) (defScope st_number_in) .none kV_number_in dc_number_in pm_number_in an_number_in cd_number_in ct_number_in), sl_number_in⟩)
    (q_number_in : PySem.W.codeIn K cd_number_in "number_in" = true)
    (k_number_in : PySem.W.keepIn K (.ref f_number_in) = true)
    (a_Sums___init__ : PySem.W.findIn K (.ref cS) "__init__" = some (some (.ref f_Sums___init__)))
    (i_Sums___init__ : PySem.W.isFn K (.ref f_Sums___init__) = true)
    (l_Sums___init__ : K.lookup f_Sums___init__ = some ⟨oc_Sums___init__, od_Sums___init__, .func (PySem.W.fnOf "__init__" "Sums.__init__" (defArgs st_Sums___init__) (defBody st_Sums___init__) (defScope st_Sums___init__) .none kV_Sums___init__ dc_Sums___init__ pm_Sums___init__ an_Sums___init__ cd_Sums___init__ ct_Sums___init__), sl_Sums___init__⟩)
    (q_Sums___init__ : PySem.W.codeIn K cd_Sums___init__ "Sums.__init__" = true)
    (k_Sums___init__ : PySem.W.keepIn K (.ref f_Sums___init__) = true)
    (a_Sums_fail : PySem.W.findIn K (.ref cS) "fail" = some (some (.ref f_Sums_fail)))
    (i_Sums_fail : PySem.W.isFn K (.ref f_Sums_fail) = true)
    (l_Sums_fail : K.lookup f_Sums_fail = some ⟨oc_Sums_fail, od_Sums_fail, .func (PySem.W.fnOf "fail" "Sums.fail" (defArgs st_Sums_fail) (defBody st_Sums_fail) (defScope st_Sums_fail) .none kV_Sums_fail dc_Sums_fail pm_Sums_fail an_Sums_fail cd_Sums_fail ct_Sums_fail), sl_Sums_fail⟩)
    (q_Sums_fail : PySem.W.codeIn K cd_Sums_fail "Sums.fail" = true)
    (k_Sums_fail : PySem.W.keepIn K (.ref f_Sums_fail) = true)
    (a_Sums_one : PySem.W.findIn K (.ref cS) "one" = some (some (.ref f_Sums_one)))
    (i_Sums_one : PySem.W.isFn K (.ref f_Sums_one) = true)
    (l_Sums_one : K.lookup f_Sums_one = some ⟨oc_Sums_one, od_Sums_one, .func (PySem.W.fnOf "one" "Sums.one" (defArgs st_Sums_one) (defBody st_Sums_one) (defScope st_Sums_one) .none kV_Sums_one dc_Sums_one pm_Sums_one an_Sums_one cd_Sums_one ct_Sums_one), sl_Sums_one⟩)
    (q_Sums_one : PySem.W.codeIn K cd_Sums_one "Sums.one" = true)
    (k_Sums_one : PySem.W.keepIn K (.ref f_Sums_one) = true)
    (a_Sums_whole : PySem.W.findIn K (.ref cS) "whole" = some (some (.ref f_Sums_whole)))
    (i_Sums_whole : PySem.W.isFn K (.ref f_Sums_whole) = true)
    (l_Sums_whole : K.lookup f_Sums_whole = some ⟨oc_Sums_whole, od_Sums_whole, .func (PySem.W.fnOf "whole" "Sums.whole" (defArgs st_Sums_whole) (defBody st_Sums_whole) (defScope st_Sums_whole) .none kV_Sums_whole dc_Sums_whole pm_Sums_whole an_Sums_whole cd_Sums_whole ct_Sums_whole), sl_Sums_whole⟩)
    (q_Sums_whole : PySem.W.codeIn K cd_Sums_whole "Sums.whole" = true)
    (k_Sums_whole : PySem.W.keepIn K (.ref f_Sums_whole) = true)
    (a_deep : PySem.W.nsIn K mainGlobals "deep" = some (some (.ref f_deep)))
    (l_deep : K.lookup f_deep = some ⟨oc_deep, od_deep, .func (PySem.W.fnOf "deep" "deep" (defArgs st_deep) (defBody st_deep) (defScope st_deep) .none kV_deep dc_deep pm_deep an_deep cd_deep ct_deep), sl_deep⟩)
    (q_deep : PySem.W.codeIn K cd_deep "deep" = true)
    (k_deep : PySem.W.keepIn K (.ref f_deep) = true)
    (a_Open___init__ : PySem.W.findIn K (.ref cO) "__init__" = some (some (.ref f_Open___init__)))
    (i_Open___init__ : PySem.W.isFn K (.ref f_Open___init__) = true)
    (l_Open___init__ : K.lookup f_Open___init__ = some ⟨oc_Open___init__, od_Open___init__, .func (PySem.W.fnOf "__init__" "Open.__init__" (defArgs st_Open___init__) (defBody st_Open___init__) (defScope st_Open___init__) (.ref dT_Open___init__) kV_Open___init__ dc_Open___init__ pm_Open___init__ an_Open___init__ cd_Open___init__ ct_Open___init__), sl_Open___init__⟩)
    (q_Open___init__ : PySem.W.codeIn K cd_Open___init__ "Open.__init__" = true)
    (k_Open___init__ : PySem.W.keepIn K (.ref f_Open___init__) = true)
    (e_Open___init__ : K.lookup dT_Open___init__ = some ⟨do_Open___init__, dd_Open___init__, .seq #[.none] dn_Open___init__, ds_Open___init__⟩)
    (a_Reader___init__ : PySem.W.findIn K (.ref cR) "__init__" = some (some (.ref f_Reader___init__)))
    (i_Reader___init__ : PySem.W.isFn K (.ref f_Reader___init__) = true)
    (l_Reader___init__ : K.lookup f_Reader___init__ = some ⟨oc_Reader___init__, od_Reader___init__, .func (PySem.W.fnOf "__init__" "Reader.__init__" (defArgs st_Reader___init__) (defBody st_Reader___init__) (defScope st_Reader___init__) .none kV_Reader___init__ dc_Reader___init__ pm_Reader___init__ an_Reader___init__ cd_Reader___init__ ct_Reader___init__), sl_Reader___init__⟩)
    (q_Reader___init__ : PySem.W.codeIn K cd_Reader___init__ "Reader.__init__" = true)
    (k_Reader___init__ : PySem.W.keepIn K (.ref f_Reader___init__) = true)
    (a_Reader_fail : PySem.W.findIn K (.ref cR) "fail" = some (some (.ref f_Reader_fail)))
    (i_Reader_fail : PySem.W.isFn K (.ref f_Reader_fail) = true)
    (l_Reader_fail : K.lookup f_Reader_fail = some ⟨oc_Reader_fail, od_Reader_fail, .func (PySem.W.fnOf "fail" "Reader.fail" (defArgs st_Reader_fail) (defBody st_Reader_fail) (defScope st_Reader_fail) .none kV_Reader_fail dc_Reader_fail pm_Reader_fail an_Reader_fail cd_Reader_fail ct_Reader_fail), sl_Reader_fail⟩)
    (q_Reader_fail : PySem.W.codeIn K cd_Reader_fail "Reader.fail" = true)
    (k_Reader_fail : PySem.W.keepIn K (.ref f_Reader_fail) = true)
    (a_Reader_need_size : PySem.W.findIn K (.ref cR) "need_size" = some (some (.ref f_Reader_need_size)))
    (i_Reader_need_size : PySem.W.isFn K (.ref f_Reader_need_size) = true)
    (l_Reader_need_size : K.lookup f_Reader_need_size = some ⟨oc_Reader_need_size, od_Reader_need_size, .func (PySem.W.fnOf "need_size" "Reader.need_size" (defArgs st_Reader_need_size) (defBody st_Reader_need_size) (defScope st_Reader_need_size) .none kV_Reader_need_size dc_Reader_need_size pm_Reader_need_size an_Reader_need_size cd_Reader_need_size ct_Reader_need_size), sl_Reader_need_size⟩)
    (q_Reader_need_size : PySem.W.codeIn K cd_Reader_need_size "Reader.need_size" = true)
    (k_Reader_need_size : PySem.W.keepIn K (.ref f_Reader_need_size) = true)
    (a_Reader_known : PySem.W.findIn K (.ref cR) "known" = some (some (.ref f_Reader_known)))
    (i_Reader_known : PySem.W.isFn K (.ref f_Reader_known) = true)
    (l_Reader_known : K.lookup f_Reader_known = some ⟨oc_Reader_known, od_Reader_known, .func (PySem.W.fnOf "known" "Reader.known" (defArgs st_Reader_known) (defBody st_Reader_known) (defScope st_Reader_known) .none kV_Reader_known dc_Reader_known pm_Reader_known an_Reader_known cd_Reader_known ct_Reader_known), sl_Reader_known⟩)
    (q_Reader_known : PySem.W.codeIn K cd_Reader_known "Reader.known" = true)
    (k_Reader_known : PySem.W.keepIn K (.ref f_Reader_known) = true)
    (a_Reader_take : PySem.W.findIn K (.ref cR) "take" = some (some (.ref f_Reader_take)))
    (i_Reader_take : PySem.W.isFn K (.ref f_Reader_take) = true)
    (l_Reader_take : K.lookup f_Reader_take = some ⟨oc_Reader_take, od_Reader_take, .func (PySem.W.fnOf "take" "Reader.take" (defArgs st_Reader_take) (defBody st_Reader_take) (defScope st_Reader_take) .none kV_Reader_take dc_Reader_take pm_Reader_take an_Reader_take cd_Reader_take ct_Reader_take), sl_Reader_take⟩)
    (q_Reader_take : PySem.W.codeIn K cd_Reader_take "Reader.take" = true)
    (k_Reader_take : PySem.W.keepIn K (.ref f_Reader_take) = true)
    (a_Reader_take_names : PySem.W.findIn K (.ref cR) "take_names" = some (some (.ref f_Reader_take_names)))
    (i_Reader_take_names : PySem.W.isFn K (.ref f_Reader_take_names) = true)
    (l_Reader_take_names : K.lookup f_Reader_take_names = some ⟨oc_Reader_take_names, od_Reader_take_names, .func (PySem.W.fnOf "take_names" "Reader.take_names" (defArgs st_Reader_take_names) (defBody st_Reader_take_names) (defScope st_Reader_take_names) .none kV_Reader_take_names dc_Reader_take_names pm_Reader_take_names an_Reader_take_names cd_Reader_take_names ct_Reader_take_names), sl_Reader_take_names⟩)
    (q_Reader_take_names : PySem.W.codeIn K cd_Reader_take_names "Reader.take_names" = true)
    (k_Reader_take_names : PySem.W.keepIn K (.ref f_Reader_take_names) = true)
    (a_Reader_take_procedure : PySem.W.findIn K (.ref cR) "take_procedure" = some (some (.ref f_Reader_take_procedure)))
    (i_Reader_take_procedure : PySem.W.isFn K (.ref f_Reader_take_procedure) = true)
    (l_Reader_take_procedure : K.lookup f_Reader_take_procedure = some ⟨oc_Reader_take_procedure, od_Reader_take_procedure, .func (PySem.W.fnOf "take_procedure" "Reader.take_procedure" (defArgs st_Reader_take_procedure) (defBody st_Reader_take_procedure) (defScope st_Reader_take_procedure) .none kV_Reader_take_procedure dc_Reader_take_procedure pm_Reader_take_procedure an_Reader_take_procedure cd_Reader_take_procedure ct_Reader_take_procedure), sl_Reader_take_procedure⟩)
    (q_Reader_take_procedure : PySem.W.codeIn K cd_Reader_take_procedure "Reader.take_procedure" = true)
    (k_Reader_take_procedure : PySem.W.keepIn K (.ref f_Reader_take_procedure) = true)
    (a_Reader_take_turn : PySem.W.findIn K (.ref cR) "take_turn" = some (some (.ref f_Reader_take_turn)))
    (i_Reader_take_turn : PySem.W.isFn K (.ref f_Reader_take_turn) = true)
    (l_Reader_take_turn : K.lookup f_Reader_take_turn = some ⟨oc_Reader_take_turn, od_Reader_take_turn, .func (PySem.W.fnOf "take_turn" "Reader.take_turn" (defArgs st_Reader_take_turn) (defBody st_Reader_take_turn) (defScope st_Reader_take_turn) .none kV_Reader_take_turn dc_Reader_take_turn pm_Reader_take_turn an_Reader_take_turn cd_Reader_take_turn ct_Reader_take_turn), sl_Reader_take_turn⟩)
    (q_Reader_take_turn : PySem.W.codeIn K cd_Reader_take_turn "Reader.take_turn" = true)
    (k_Reader_take_turn : PySem.W.keepIn K (.ref f_Reader_take_turn) = true)
    (a_Reader_close : PySem.W.findIn K (.ref cR) "close" = some (some (.ref f_Reader_close)))
    (i_Reader_close : PySem.W.isFn K (.ref f_Reader_close) = true)
    (l_Reader_close : K.lookup f_Reader_close = some ⟨oc_Reader_close, od_Reader_close, .func (PySem.W.fnOf "close" "Reader.close" (defArgs st_Reader_close) (defBody st_Reader_close) (defScope st_Reader_close) .none kV_Reader_close dc_Reader_close pm_Reader_close an_Reader_close cd_Reader_close ct_Reader_close), sl_Reader_close⟩)
    (q_Reader_close : PySem.W.codeIn K cd_Reader_close "Reader.close" = true)
    (k_Reader_close : PySem.W.keepIn K (.ref f_Reader_close) = true)
    (a_Reader_depth : PySem.W.findIn K (.ref cR) "depth" = some (some (.ref f_Reader_depth)))
    (i_Reader_depth : PySem.W.isFn K (.ref f_Reader_depth) = true)
    (l_Reader_depth : K.lookup f_Reader_depth = some ⟨oc_Reader_depth, od_Reader_depth, .func (PySem.W.fnOf "depth" "Reader.depth" (defArgs st_Reader_depth) (defBody st_Reader_depth) (defScope st_Reader_depth) .none kV_Reader_depth dc_Reader_depth pm_Reader_depth an_Reader_depth cd_Reader_depth ct_Reader_depth), sl_Reader_depth⟩)
    (q_Reader_depth : PySem.W.codeIn K cd_Reader_depth "Reader.depth" = true)
    (k_Reader_depth : PySem.W.keepIn K (.ref f_Reader_depth) = true)
    (a_Reader_take_part : PySem.W.findIn K (.ref cR) "take_part" = some (some (.ref f_Reader_take_part)))
    (i_Reader_take_part : PySem.W.isFn K (.ref f_Reader_take_part) = true)
    (l_Reader_take_part : K.lookup f_Reader_take_part = some ⟨oc_Reader_take_part, od_Reader_take_part, .func (PySem.W.fnOf "take_part" "Reader.take_part" (defArgs st_Reader_take_part) (defBody st_Reader_take_part) (defScope st_Reader_take_part) .none kV_Reader_take_part dc_Reader_take_part pm_Reader_take_part an_Reader_take_part cd_Reader_take_part ct_Reader_take_part), sl_Reader_take_part⟩)
    (q_Reader_take_part : PySem.W.codeIn K cd_Reader_take_part "Reader.take_part" = true)
    (k_Reader_take_part : PySem.W.keepIn K (.ref f_Reader_take_part) = true)
    (a_Reader_small_part : PySem.W.findIn K (.ref cR) "small_part" = some (some (.ref f_Reader_small_part)))
    (i_Reader_small_part : PySem.W.isFn K (.ref f_Reader_small_part) = true)
    (l_Reader_small_part : K.lookup f_Reader_small_part = some ⟨oc_Reader_small_part, od_Reader_small_part, .func (PySem.W.fnOf "small_part" "Reader.small_part" (defArgs st_Reader_small_part) (defBody st_Reader_small_part) (defScope st_Reader_small_part) .none kV_Reader_small_part dc_Reader_small_part pm_Reader_small_part an_Reader_small_part cd_Reader_small_part ct_Reader_small_part), sl_Reader_small_part⟩)
    (q_Reader_small_part : PySem.W.codeIn K cd_Reader_small_part "Reader.small_part" = true)
    (k_Reader_small_part : PySem.W.keepIn K (.ref f_Reader_small_part) = true)
    (a_Reader_sum_to_end : PySem.W.findIn K (.ref cR) "sum_to_end" = some (some (.ref f_Reader_sum_to_end)))
    (i_Reader_sum_to_end : PySem.W.isFn K (.ref f_Reader_sum_to_end) = true)
    (l_Reader_sum_to_end : K.lookup f_Reader_sum_to_end = some ⟨oc_Reader_sum_to_end, od_Reader_sum_to_end, .func (PySem.W.fnOf "sum_to_end" "Reader.sum_to_end" (defArgs st_Reader_sum_to_end) (defBody st_Reader_sum_to_end) (defScope st_Reader_sum_to_end) .none kV_Reader_sum_to_end dc_Reader_sum_to_end pm_Reader_sum_to_end an_Reader_sum_to_end cd_Reader_sum_to_end ct_Reader_sum_to_end), sl_Reader_sum_to_end⟩)
    (q_Reader_sum_to_end : PySem.W.codeIn K cd_Reader_sum_to_end "Reader.sum_to_end" = true)
    (k_Reader_sum_to_end : PySem.W.keepIn K (.ref f_Reader_sum_to_end) = true)
    (a_Reader_test_of : PySem.W.findIn K (.ref cR) "test_of" = some (some (.ref f_Reader_test_of)))
    (i_Reader_test_of : PySem.W.isFn K (.ref f_Reader_test_of) = true)
    (l_Reader_test_of : K.lookup f_Reader_test_of = some ⟨oc_Reader_test_of, od_Reader_test_of, .func (PySem.W.fnOf "test_of" "Reader.test_of" (defArgs st_Reader_test_of) (defBody st_Reader_test_of) (defScope st_Reader_test_of) .none kV_Reader_test_of dc_Reader_test_of pm_Reader_test_of an_Reader_test_of cd_Reader_test_of ct_Reader_test_of), sl_Reader_test_of⟩)
    (q_Reader_test_of : PySem.W.codeIn K cd_Reader_test_of "Reader.test_of" = true)
    (k_Reader_test_of : PySem.W.keepIn K (.ref f_Reader_test_of) = true)
    (a_read_blocks : PySem.W.nsIn K mainGlobals "read_blocks" = some (some (.ref f_read_blocks)))
    (l_read_blocks : K.lookup f_read_blocks = some ⟨oc_read_blocks, od_read_blocks, .func (PySem.W.fnOf "read_blocks" "read_blocks" (defArgs st_read_blocks) (defBody st_read_blocks) (defScope st_read_blocks) .none kV_read_blocks dc_read_blocks pm_read_blocks an_read_blocks cd_read_blocks ct_read_blocks), sl_read_blocks⟩)
    (q_read_blocks : PySem.W.codeIn K cd_read_blocks "read_blocks" = true)
    (k_read_blocks : PySem.W.keepIn K (.ref f_read_blocks) = true)
    (a__law_taken : PySem.W.nsIn K mainGlobals "_law_taken" = some (some (.ref f__law_taken)))
    (l__law_taken : K.lookup f__law_taken = some ⟨oc__law_taken, od__law_taken, .func (PySem.W.fnOf "_law_taken" "_law_taken" (defArgs st__law_taken) (defBody st__law_taken) (defScope st__law_taken) .none kV__law_taken dc__law_taken pm__law_taken an__law_taken cd__law_taken ct__law_taken), sl__law_taken⟩)
    (q__law_taken : PySem.W.codeIn K cd__law_taken "_law_taken" = true)
    (k__law_taken : PySem.W.keepIn K (.ref f__law_taken) = true)
    (a__law_pick : PySem.W.nsIn K mainGlobals "_law_pick" = some (some (.ref f__law_pick)))
    (l__law_pick : K.lookup f__law_pick = some ⟨oc__law_pick, od__law_pick, .func (PySem.W.fnOf "_law_pick" "_law_pick" (defArgs st__law_pick) (defBody st__law_pick) (defScope st__law_pick) .none kV__law_pick dc__law_pick pm__law_pick an__law_pick cd__law_pick ct__law_pick), sl__law_pick⟩)
    (q__law_pick : PySem.W.codeIn K cd__law_pick "_law_pick" = true)
    (k__law_pick : PySem.W.keepIn K (.ref f__law_pick) = true)
    (a__law_sum : PySem.W.nsIn K mainGlobals "_law_sum" = some (some (.ref f__law_sum)))
    (l__law_sum : K.lookup f__law_sum = some ⟨oc__law_sum, od__law_sum, .func (PySem.W.fnOf "_law_sum" "_law_sum" (defArgs st__law_sum) (defBody st__law_sum) (defScope st__law_sum) .none kV__law_sum dc__law_sum pm__law_sum an__law_sum cd__law_sum ct__law_sum), sl__law_sum⟩)
    (q__law_sum : PySem.W.codeIn K cd__law_sum "_law_sum" = true)
    (k__law_sum : PySem.W.keepIn K (.ref f__law_sum) = true)
    (a__law_block : PySem.W.nsIn K mainGlobals "_law_block" = some (some (.ref f__law_block)))
    (l__law_block : K.lookup f__law_block = some ⟨oc__law_block, od__law_block, .func (PySem.W.fnOf "_law_block" "_law_block" (defArgs st__law_block) (defBody st__law_block) (defScope st__law_block) .none kV__law_block dc__law_block pm__law_block an__law_block cd__law_block ct__law_block), sl__law_block⟩)
    (q__law_block : PySem.W.codeIn K cd__law_block "_law_block" = true)
    (k__law_block : PySem.W.keepIn K (.ref f__law_block) = true)
    (a__law_parts : PySem.W.nsIn K mainGlobals "_law_parts" = some (some (.ref f__law_parts)))
    (l__law_parts : K.lookup f__law_parts = some ⟨oc__law_parts, od__law_parts, .func (PySem.W.fnOf "_law_parts" "_law_parts" (defArgs st__law_parts) (defBody st__law_parts) (defScope st__law_parts) .none kV__law_parts dc__law_parts pm__law_parts an__law_parts cd__law_parts ct__law_parts), sl__law_parts⟩)
    (q__law_parts : PySem.W.codeIn K cd__law_parts "_law_parts" = true)
    (k__law_parts : PySem.W.keepIn K (.ref f__law_parts) = true)
    (a__law_program : PySem.W.nsIn K mainGlobals "_law_program" = some (some (.ref f__law_program)))
    (l__law_program : K.lookup f__law_program = some ⟨oc__law_program, od__law_program, .func (PySem.W.fnOf "_law_program" "_law_program" (defArgs st__law_program) (defBody st__law_program) (defScope st__law_program) .none kV__law_program dc__law_program pm__law_program an__law_program cd__law_program ct__law_program), sl__law_program⟩)
    (q__law_program : PySem.W.codeIn K cd__law_program "_law_program" = true)
    (k__law_program : PySem.W.keepIn K (.ref f__law_program) = true)
    (a__law_sum_text : PySem.W.nsIn K mainGlobals "_law_sum_text" = some (some (.ref f__law_sum_text)))
    (l__law_sum_text : K.lookup f__law_sum_text = some ⟨oc__law_sum_text, od__law_sum_text, .func (PySem.W.fnOf "_law_sum_text" "_law_sum_text" (defArgs st__law_sum_text) (defBody st__law_sum_text) (defScope st__law_sum_text) .none kV__law_sum_text dc__law_sum_text pm__law_sum_text an__law_sum_text cd__law_sum_text ct__law_sum_text), sl__law_sum_text⟩)
    (q__law_sum_text : PySem.W.codeIn K cd__law_sum_text "_law_sum_text" = true)
    (k__law_sum_text : PySem.W.keepIn K (.ref f__law_sum_text) = true)
    (a__law_lines : PySem.W.nsIn K mainGlobals "_law_lines" = some (some (.ref f__law_lines)))
    (l__law_lines : K.lookup f__law_lines = some ⟨oc__law_lines, od__law_lines, .func (PySem.W.fnOf "_law_lines" "_law_lines" (defArgs st__law_lines) (defBody st__law_lines) (defScope st__law_lines) .none kV__law_lines dc__law_lines pm__law_lines an__law_lines cd__law_lines ct__law_lines), sl__law_lines⟩)
    (q__law_lines : PySem.W.codeIn K cd__law_lines "_law_lines" = true)
    (k__law_lines : PySem.W.keepIn K (.ref f__law_lines) = true)
    (a__law_alike : PySem.W.nsIn K mainGlobals "_law_alike" = some (some (.ref f__law_alike)))
    (l__law_alike : K.lookup f__law_alike = some ⟨oc__law_alike, od__law_alike, .func (PySem.W.fnOf "_law_alike" "_law_alike" (defArgs st__law_alike) (defBody st__law_alike) (defScope st__law_alike) .none kV__law_alike dc__law_alike pm__law_alike an__law_alike cd__law_alike ct__law_alike), sl__law_alike⟩)
    (q__law_alike : PySem.W.codeIn K cd__law_alike "_law_alike" = true)
    (k__law_alike : PySem.W.keepIn K (.ref f__law_alike) = true)
    (a_law : PySem.W.nsIn K mainGlobals "law" = some (some (.ref f_law)))
    (l_law : K.lookup f_law = some ⟨oc_law, od_law, .func (PySem.W.fnOf "law" "law" (defArgs st_law) (defBody st_law) (defScope st_law) .none kV_law dc_law pm_law an_law cd_law ct_law), sl_law⟩)
    (q_law : PySem.W.codeIn K cd_law "law" = true)
    (k_law : PySem.W.keepIn K (.ref f_law) = true)
    (pg_Sums : PySem.W.plainGet K cS Str.empty = true)
    (hd_Sums : PySem.W.hasDictIn K cS = true)
    (po_Sums : PySem.W.plainOver K cS = true)
    (sa_Sums : PySem.W.findIn K (.ref cS) "__setattr__" = some (some (.builtin "object.__setattr__")))
    (mk_Sums : PySem.W.makesIn K cS = true)
    (kc_Sums : PySem.W.keepIn K (.ref cS) = true)
    (n_Sums_names : PySem.W.findIn K (.ref cS) "names" = some none)
    (n_Sums_words : PySem.W.findIn K (.ref cS) "words" = some none)
    (n_Sums_line : PySem.W.findIn K (.ref cS) "line" = some none)
    (pg_Open : PySem.W.plainGet K cO Str.empty = true)
    (hd_Open : PySem.W.hasDictIn K cO = true)
    (po_Open : PySem.W.plainOver K cO = true)
    (sa_Open : PySem.W.findIn K (.ref cO) "__setattr__" = some (some (.builtin "object.__setattr__")))
    (mk_Open : PySem.W.makesIn K cO = true)
    (kc_Open : PySem.W.keepIn K (.ref cO) = true)
    (n_Open_words : PySem.W.findIn K (.ref cO) "words" = some none)
    (n_Open_test : PySem.W.findIn K (.ref cO) "test" = some none)
    (n_Open_blocks : PySem.W.findIn K (.ref cO) "blocks" = some none)
    (pg_Reader : PySem.W.plainGet K cR Str.empty = true)
    (hd_Reader : PySem.W.hasDictIn K cR = true)
    (po_Reader : PySem.W.plainOver K cR = true)
    (sa_Reader : PySem.W.findIn K (.ref cR) "__setattr__" = some (some (.builtin "object.__setattr__")))
    (mk_Reader : PySem.W.makesIn K cR = true)
    (kc_Reader : PySem.W.keepIn K (.ref cR) = true)
    (n_Reader_names : PySem.W.findIn K (.ref cR) "names" = some none)
    (n_Reader_procedures : PySem.W.findIn K (.ref cR) "procedures" = some none)
    (n_Reader_tower : PySem.W.findIn K (.ref cR) "tower" = some none)
    (n_Reader_parts : PySem.W.findIn K (.ref cR) "parts" = some none)
    (n_Reader_has_begun : PySem.W.findIn K (.ref cR) "has_begun" = some none)
    (x_cls : K.lookup cBL = some (excClassObj xnm xq cBL xN xbs [.ref cE, .type "ValueError", .type "Exception", .type "BaseException", .type "object"] true xsn xsub xab xcol xdd xk0 xk1 xk2 xk3 xk5 "ValueError.__new__"))
    (x_sa : PySem.W.findIn K (.ref cBL) "__setattr__" = some (some (.builtin "object.__setattr__")))
    (xg_BadLine : PySem.W.findIn K (.ref cBL) "__getattribute__" = some (some (.builtin "BaseException.__getattribute__")))
    (xk_BadLine : PySem.W.findIn K (.ref cBL) "__getattr__" = some none)
    (xs_BadLine : PySem.W.subIn K (.ref cBL) (.type "BaseException") = some true)
    (xd_BadLine : PySem.W.hasDictIn K cBL = true)
    (xa_BadLine : PySem.W.findIn K (.ref cBL) "__class__" = some (some (.builtin "object.__class__")))
    (xm_BadLine : PySem.W.mroIn K cBL (.type "object") = some true)
    (xt_BadLine : PySem.W.typeIn K (.ref cBL) = some (.type "type"))
    (xp_BadLine : PySem.W.keepIn K (.ref cBL) = true)
    (xe_BadLine : PySem.W.subIn K (.ref cBL) (.ref cE) = some true)
    (xg_BadString : PySem.W.findIn K (.ref cBS) "__getattribute__" = some (some (.builtin "BaseException.__getattribute__")))
    (xk_BadString : PySem.W.findIn K (.ref cBS) "__getattr__" = some none)
    (xs_BadString : PySem.W.subIn K (.ref cBS) (.type "BaseException") = some true)
    (xd_BadString : PySem.W.hasDictIn K cBS = true)
    (xa_BadString : PySem.W.findIn K (.ref cBS) "__class__" = some (some (.builtin "object.__class__")))
    (xm_BadString : PySem.W.mroIn K cBS (.type "object") = some true)
    (xt_BadString : PySem.W.typeIn K (.ref cBS) = some (.type "type"))
    (xp_BadString : PySem.W.keepIn K (.ref cBS) = true)
    (xe_BadString : PySem.W.subIn K (.ref cBS) (.ref cE) = some true)
    (xn : PySem.W.specialIn K (.builtin "object.__class__") "__get__" = some (some (.builtin "getset_descriptor.__get__")))
    (xtk : PySem.W.takesIn K (.builtin "object.__class__") = some true)
    (xl : PySem.W.findIn K (.ref cBL) "line" = some none)
    (xw : PySem.W.findIn K (.ref cBL) "word" = some none)
    (xin : PySem.W.excIn K cBS [.type "ValueError", .type "Exception", .type "BaseException", .type "object"] "ValueError.__new__" = true)
    (es : PySem.W.subIn K (.ref cE) (.type "BaseException") = some true)
    (ed : PySem.W.hasDictIn K cE = true)
    (et : PySem.W.typeIn K (.ref cE) = some (.type "type")) :
    ∃ fd : FuncData, (∀ (s : Shared) (v : Value), BindsTo s fd ⟨[v], []⟩ [("_law_script", v)]) ∧ ∀ base : Heap, K.In base → base.Ns mainGlobals mg → FnOk l.prog w K mg base CX0 31 fa fd ["_law_script"] (spLaw K) := by
  have e := hfa.symm.trans (PySem.W.mg_of X G a_law)
  cases e
  have T : Txt K mg w ⟨kp, signs, #[{ hash := PyData.keyHash w.params "+", key := .str "+" signst0, val := .str "plus" signsu0 }, { hash := PyData.keyHash w.params "-", key := .str "-" signst1, val := .str "minus" signsu1 }], signsN, tests, #[{ hash := PyData.keyHash w.params "=", key := .str "=" testst0, val := .bool true }, { hash := PyData.keyHash w.params "!=", key := .str "!=" testst1, val := .bool false }], testsN, cE, cBS, cBL, cBB, cS, cO, cR⟩ :=
    { b_len := PySem.W.mg_none_of X G zb_len,
      b_isinstance := PySem.W.mg_none_of X G zb_isinstance,
      b_str := PySem.W.mg_none_of X G zb_str,
      b_tuple := PySem.W.mg_none_of X G zb_tuple,
      b_list := PySem.W.mg_none_of X G zb_list,
      b_int := PySem.W.mg_none_of X G zb_int,
      b_set := PySem.W.mg_none_of X G zb_set,
      b_sum := PySem.W.mg_none_of X G zb_sum,
      b_max := PySem.W.mg_none_of X G zb_max,
      b_range := PySem.W.mg_none_of X G zb_range,
      b_enumerate := PySem.W.mg_none_of X G zb_enumerate,
      b_bool := PySem.W.mg_none_of X G zb_bool,
      g_MOST_PLACES := ⟨_, PySem.W.mg_of X G v_MOST_PLACES, ⟨_, rfl⟩⟩,
      g_MOST_LETTERS := ⟨_, PySem.W.mg_of X G v_MOST_LETTERS, ⟨_, rfl⟩⟩,
      g_MOST_CONSTANT := ⟨_, PySem.W.mg_of X G v_MOST_CONSTANT, ⟨_, rfl⟩⟩,
      g_MOST_DEPTH := ⟨_, PySem.W.mg_of X G v_MOST_DEPTH, ⟨_, rfl⟩⟩,
      g_MOST_PARTS := ⟨_, PySem.W.mg_of X G v_MOST_PARTS, ⟨_, rfl⟩⟩,
      g_MOST_TERMS := ⟨_, PySem.W.mg_of X G v_MOST_TERMS, ⟨_, rfl⟩⟩,
      g_MOST_ROUNDS := ⟨_, PySem.W.mg_of X G v_MOST_ROUNDS, ⟨_, rfl⟩⟩,
      g_MOST_PROCEDURES := ⟨_, PySem.W.mg_of X G v_MOST_PROCEDURES, ⟨_, rfl⟩⟩,
      g_LETTERS := ⟨_, PySem.W.mg_of X G v_LETTERS, ⟨_, rfl⟩⟩,
      g_FIGURES := ⟨_, PySem.W.mg_of X G v_FIGURES, ⟨_, rfl⟩⟩,
      g_KEPT_WORDS := ⟨_, PySem.W.mg_of X G v_KEPT, rfl⟩,
      keptT := fun H => .inr ⟨_, _, _, l_KEPT, rfl, rfl, by show 12 ≤ sizeLine; exact sz_of (by decide), .cons ⟨_, rfl⟩ (.cons ⟨_, rfl⟩ (.cons ⟨_, rfl⟩ (.cons ⟨_, rfl⟩ (.cons ⟨_, rfl⟩ (.cons ⟨_, rfl⟩ (.cons ⟨_, rfl⟩ (.cons ⟨_, rfl⟩ (.cons ⟨_, rfl⟩ (.cons ⟨_, rfl⟩ (.cons ⟨_, rfl⟩ (.cons ⟨_, rfl⟩ (.nil))))))))))))⟩,
      g_SIGNS := ⟨_, PySem.W.mg_of X G v_signs, rfl⟩,
      signs := ⟨l_signs, ⟨⟨_, _, rfl, rfl⟩, ⟨_, _, rfl, rfl⟩, trivial⟩, s_signs⟩,
      g_TESTS := ⟨_, PySem.W.mg_of X G v_tests, rfl⟩,
      tests := ⟨l_tests, ⟨⟨_, _, rfl, rfl⟩, ⟨_, _, rfl, rfl⟩, trivial⟩, s_tests⟩,
      signsAt := signs_at l_signs,
      testsAt := tests_at l_tests,
      d_is_number := ⟨_, _, ⟨⟨_, _, _, _, _, _, _, _, _, _, rfl, l_is_number, q_is_number, .inl ⟨rfl, rfl⟩, .inl rfl⟩, k_is_number⟩, PySem.W.mg_of X G a_is_number⟩,
      d_is_name := ⟨_, _, ⟨⟨_, _, _, _, _, _, _, _, _, _, rfl, l_is_name, q_is_name, .inl ⟨rfl, rfl⟩, .inl rfl⟩, k_is_name⟩, PySem.W.mg_of X G a_is_name⟩,
      d_are_unlike_names := ⟨_, _, ⟨⟨_, _, _, _, _, _, _, _, _, _, rfl, l_are_unlike_names, q_are_unlike_names, .inl ⟨rfl, rfl⟩, .inl rfl⟩, k_are_unlike_names⟩, PySem.W.mg_of X G a_are_unlike_names⟩,
      d_is_sum := ⟨_, _, ⟨⟨_, _, _, _, _, _, _, _, _, _, rfl, l_is_sum, q_is_sum, .inr ⟨by simp, _, _, [.int 1 e0_is_sum], _, rfl, e_is_sum, rfl, .cons ⟨_, rfl⟩ .nil⟩, .inl rfl⟩, k_is_sum⟩, PySem.W.mg_of X G a_is_sum⟩,
      d_terms_in := ⟨_, _, ⟨⟨_, _, _, _, _, _, _, _, _, _, rfl, l_terms_in, q_terms_in, .inl ⟨rfl, rfl⟩, .inl rfl⟩, k_terms_in⟩, PySem.W.mg_of X G a_terms_in⟩,
      d_is_whole_sum := ⟨_, _, ⟨⟨_, _, _, _, _, _, _, _, _, _, rfl, l_is_whole_sum, q_is_whole_sum, .inl ⟨rfl, rfl⟩, .inl rfl⟩, k_is_whole_sum⟩, PySem.W.mg_of X G a_is_whole_sum⟩,
      d_is_test := ⟨_, _, ⟨⟨_, _, _, _, _, _, _, _, _, _, rfl, l_is_test, q_is_test, .inl ⟨rfl, rfl⟩, .inl rfl⟩, k_is_test⟩, PySem.W.mg_of X G a_is_test⟩,
      d_is_part := ⟨_, _, ⟨⟨_, _, _, _, _, _, _, _, _, _, rfl, l_is_part, q_is_part, .inl ⟨rfl, rfl⟩, .inl rfl⟩, k_is_part⟩, PySem.W.mg_of X G a_is_part⟩,
      d_is_block := ⟨_, _, ⟨⟨_, _, _, _, _, _, _, _, _, _, rfl, l_is_block, q_is_block, .inl ⟨rfl, rfl⟩, .inl rfl⟩, k_is_block⟩, PySem.W.mg_of X G a_is_block⟩,
      d_blocks_in := ⟨_, _, ⟨⟨_, _, _, _, _, _, _, _, _, _, rfl, l_blocks_in, q_blocks_in, .inl ⟨rfl, rfl⟩, .inl rfl⟩, k_blocks_in⟩, PySem.W.mg_of X G a_blocks_in⟩,
      d_parts_in := ⟨_, _, ⟨⟨_, _, _, _, _, _, _, _, _, _, rfl, l_parts_in, q_parts_in, .inl ⟨rfl, rfl⟩, .inl rfl⟩, k_parts_in⟩, PySem.W.mg_of X G a_parts_in⟩,
      d_need_block_program := ⟨_, _, ⟨⟨_, _, _, _, _, _, _, _, _, _, rfl, l_need_block_program, q_need_block_program, .inl ⟨rfl, rfl⟩, .inl rfl⟩, k_need_block_program⟩, PySem.W.mg_of X G a_need_block_program⟩,
      d_sum_words := ⟨_, _, ⟨⟨_, _, _, _, _, _, _, _, _, _, rfl, l_sum_words, q_sum_words, .inr ⟨by simp, _, _, [.bool false], _, rfl, e_sum_words, rfl, .cons rfl .nil⟩, .inl rfl⟩, k_sum_words⟩, PySem.W.mg_of X G a_sum_words⟩,
      d_test_words := ⟨_, _, ⟨⟨_, _, _, _, _, _, _, _, _, _, rfl, l_test_words, q_test_words, .inl ⟨rfl, rfl⟩, .inl rfl⟩, k_test_words⟩, PySem.W.mg_of X G a_test_words⟩,
      d_lines_of := ⟨_, _, ⟨⟨_, _, _, _, _, _, _, _, _, _, rfl, l_lines_of, q_lines_of, .inl ⟨rfl, rfl⟩, .inl rfl⟩, k_lines_of⟩, PySem.W.mg_of X G a_lines_of⟩,
      d_write_blocks := ⟨_, _, ⟨⟨_, _, _, _, _, _, _, _, _, _, rfl, l_write_blocks, q_write_blocks, .inl ⟨rfl, rfl⟩, .inl rfl⟩, k_write_blocks⟩, PySem.W.mg_of X G a_write_blocks⟩,
      d_number_in := ⟨_, _, ⟨⟨_, _, _, _, _, _, _, _, _, _, rfl, l_number_in, q_number_in, .inl ⟨rfl, rfl⟩, .inl rfl⟩, k_number_in⟩, PySem.W.mg_of X G a_number_in⟩,
      m_Sums___init__ := ⟨_, _, ⟨⟨_, _, _, _, _, _, _, _, _, _, rfl, l_Sums___init__, q_Sums___init__, .inl ⟨rfl, rfl⟩, .inl rfl⟩, k_Sums___init__⟩, ⟨a_Sums___init__, i_Sums___init__, k_Sums___init__⟩⟩,
      m_Sums_fail := ⟨_, _, ⟨⟨_, _, _, _, _, _, _, _, _, _, rfl, l_Sums_fail, q_Sums_fail, .inl ⟨rfl, rfl⟩, .inl rfl⟩, k_Sums_fail⟩, ⟨a_Sums_fail, i_Sums_fail, k_Sums_fail⟩⟩,
      m_Sums_one := ⟨_, _, ⟨⟨_, _, _, _, _, _, _, _, _, _, rfl, l_Sums_one, q_Sums_one, .inl ⟨rfl, rfl⟩, .inl rfl⟩, k_Sums_one⟩, ⟨a_Sums_one, i_Sums_one, k_Sums_one⟩⟩,
      m_Sums_whole := ⟨_, _, ⟨⟨_, _, _, _, _, _, _, _, _, _, rfl, l_Sums_whole, q_Sums_whole, .inl ⟨rfl, rfl⟩, .inl rfl⟩, k_Sums_whole⟩, ⟨a_Sums_whole, i_Sums_whole, k_Sums_whole⟩⟩,
      d_deep := ⟨_, _, ⟨⟨_, _, _, _, _, _, _, _, _, _, rfl, l_deep, q_deep, .inl ⟨rfl, rfl⟩, .inl rfl⟩, k_deep⟩, PySem.W.mg_of X G a_deep⟩,
      m_Open___init__ := ⟨_, _, ⟨⟨_, _, _, _, _, _, _, _, _, _, rfl, l_Open___init__, q_Open___init__, .inr ⟨by simp, _, _, [.none], _, rfl, e_Open___init__, rfl, .cons rfl .nil⟩, .inl rfl⟩, k_Open___init__⟩, ⟨a_Open___init__, i_Open___init__, k_Open___init__⟩⟩,
      m_Reader___init__ := ⟨_, _, ⟨⟨_, _, _, _, _, _, _, _, _, _, rfl, l_Reader___init__, q_Reader___init__, .inl ⟨rfl, rfl⟩, .inl rfl⟩, k_Reader___init__⟩, ⟨a_Reader___init__, i_Reader___init__, k_Reader___init__⟩⟩,
      m_Reader_fail := ⟨_, _, ⟨⟨_, _, _, _, _, _, _, _, _, _, rfl, l_Reader_fail, q_Reader_fail, .inl ⟨rfl, rfl⟩, .inl rfl⟩, k_Reader_fail⟩, ⟨a_Reader_fail, i_Reader_fail, k_Reader_fail⟩⟩,
      m_Reader_need_size := ⟨_, _, ⟨⟨_, _, _, _, _, _, _, _, _, _, rfl, l_Reader_need_size, q_Reader_need_size, .inl ⟨rfl, rfl⟩, .inl rfl⟩, k_Reader_need_size⟩, ⟨a_Reader_need_size, i_Reader_need_size, k_Reader_need_size⟩⟩,
      m_Reader_known := ⟨_, _, ⟨⟨_, _, _, _, _, _, _, _, _, _, rfl, l_Reader_known, q_Reader_known, .inl ⟨rfl, rfl⟩, .inl rfl⟩, k_Reader_known⟩, ⟨a_Reader_known, i_Reader_known, k_Reader_known⟩⟩,
      m_Reader_take := ⟨_, _, ⟨⟨_, _, _, _, _, _, _, _, _, _, rfl, l_Reader_take, q_Reader_take, .inl ⟨rfl, rfl⟩, .inl rfl⟩, k_Reader_take⟩, ⟨a_Reader_take, i_Reader_take, k_Reader_take⟩⟩,
      m_Reader_take_names := ⟨_, _, ⟨⟨_, _, _, _, _, _, _, _, _, _, rfl, l_Reader_take_names, q_Reader_take_names, .inl ⟨rfl, rfl⟩, .inl rfl⟩, k_Reader_take_names⟩, ⟨a_Reader_take_names, i_Reader_take_names, k_Reader_take_names⟩⟩,
      m_Reader_take_procedure := ⟨_, _, ⟨⟨_, _, _, _, _, _, _, _, _, _, rfl, l_Reader_take_procedure, q_Reader_take_procedure, .inl ⟨rfl, rfl⟩, .inl rfl⟩, k_Reader_take_procedure⟩, ⟨a_Reader_take_procedure, i_Reader_take_procedure, k_Reader_take_procedure⟩⟩,
      m_Reader_take_turn := ⟨_, _, ⟨⟨_, _, _, _, _, _, _, _, _, _, rfl, l_Reader_take_turn, q_Reader_take_turn, .inl ⟨rfl, rfl⟩, .inl rfl⟩, k_Reader_take_turn⟩, ⟨a_Reader_take_turn, i_Reader_take_turn, k_Reader_take_turn⟩⟩,
      m_Reader_close := ⟨_, _, ⟨⟨_, _, _, _, _, _, _, _, _, _, rfl, l_Reader_close, q_Reader_close, .inl ⟨rfl, rfl⟩, .inl rfl⟩, k_Reader_close⟩, ⟨a_Reader_close, i_Reader_close, k_Reader_close⟩⟩,
      m_Reader_depth := ⟨_, _, ⟨⟨_, _, _, _, _, _, _, _, _, _, rfl, l_Reader_depth, q_Reader_depth, .inl ⟨rfl, rfl⟩, .inl rfl⟩, k_Reader_depth⟩, ⟨a_Reader_depth, i_Reader_depth, k_Reader_depth⟩⟩,
      m_Reader_take_part := ⟨_, _, ⟨⟨_, _, _, _, _, _, _, _, _, _, rfl, l_Reader_take_part, q_Reader_take_part, .inl ⟨rfl, rfl⟩, .inl rfl⟩, k_Reader_take_part⟩, ⟨a_Reader_take_part, i_Reader_take_part, k_Reader_take_part⟩⟩,
      m_Reader_small_part := ⟨_, _, ⟨⟨_, _, _, _, _, _, _, _, _, _, rfl, l_Reader_small_part, q_Reader_small_part, .inl ⟨rfl, rfl⟩, .inl rfl⟩, k_Reader_small_part⟩, ⟨a_Reader_small_part, i_Reader_small_part, k_Reader_small_part⟩⟩,
      m_Reader_sum_to_end := ⟨_, _, ⟨⟨_, _, _, _, _, _, _, _, _, _, rfl, l_Reader_sum_to_end, q_Reader_sum_to_end, .inl ⟨rfl, rfl⟩, .inl rfl⟩, k_Reader_sum_to_end⟩, ⟨a_Reader_sum_to_end, i_Reader_sum_to_end, k_Reader_sum_to_end⟩⟩,
      m_Reader_test_of := ⟨_, _, ⟨⟨_, _, _, _, _, _, _, _, _, _, rfl, l_Reader_test_of, q_Reader_test_of, .inl ⟨rfl, rfl⟩, .inl rfl⟩, k_Reader_test_of⟩, ⟨a_Reader_test_of, i_Reader_test_of, k_Reader_test_of⟩⟩,
      d_read_blocks := ⟨_, _, ⟨⟨_, _, _, _, _, _, _, _, _, _, rfl, l_read_blocks, q_read_blocks, .inl ⟨rfl, rfl⟩, .inl rfl⟩, k_read_blocks⟩, PySem.W.mg_of X G a_read_blocks⟩,
      d__law_taken := ⟨_, _, ⟨⟨_, _, _, _, _, _, _, _, _, _, rfl, l__law_taken, q__law_taken, .inl ⟨rfl, rfl⟩, .inl rfl⟩, k__law_taken⟩, PySem.W.mg_of X G a__law_taken⟩,
      d__law_pick := ⟨_, _, ⟨⟨_, _, _, _, _, _, _, _, _, _, rfl, l__law_pick, q__law_pick, .inl ⟨rfl, rfl⟩, .inl rfl⟩, k__law_pick⟩, PySem.W.mg_of X G a__law_pick⟩,
      d__law_sum := ⟨_, _, ⟨⟨_, _, _, _, _, _, _, _, _, _, rfl, l__law_sum, q__law_sum, .inl ⟨rfl, rfl⟩, .inl rfl⟩, k__law_sum⟩, PySem.W.mg_of X G a__law_sum⟩,
      d__law_block := ⟨_, _, ⟨⟨_, _, _, _, _, _, _, _, _, _, rfl, l__law_block, q__law_block, .inl ⟨rfl, rfl⟩, .inl rfl⟩, k__law_block⟩, PySem.W.mg_of X G a__law_block⟩,
      d__law_parts := ⟨_, _, ⟨⟨_, _, _, _, _, _, _, _, _, _, rfl, l__law_parts, q__law_parts, .inl ⟨rfl, rfl⟩, .inl rfl⟩, k__law_parts⟩, PySem.W.mg_of X G a__law_parts⟩,
      d__law_program := ⟨_, _, ⟨⟨_, _, _, _, _, _, _, _, _, _, rfl, l__law_program, q__law_program, .inl ⟨rfl, rfl⟩, .inl rfl⟩, k__law_program⟩, PySem.W.mg_of X G a__law_program⟩,
      d__law_sum_text := ⟨_, _, ⟨⟨_, _, _, _, _, _, _, _, _, _, rfl, l__law_sum_text, q__law_sum_text, .inl ⟨rfl, rfl⟩, .inl rfl⟩, k__law_sum_text⟩, PySem.W.mg_of X G a__law_sum_text⟩,
      d__law_lines := ⟨_, _, ⟨⟨_, _, _, _, _, _, _, _, _, _, rfl, l__law_lines, q__law_lines, .inl ⟨rfl, rfl⟩, .inl rfl⟩, k__law_lines⟩, PySem.W.mg_of X G a__law_lines⟩,
      d__law_alike := ⟨_, _, ⟨⟨_, _, _, _, _, _, _, _, _, _, rfl, l__law_alike, q__law_alike, .inl ⟨rfl, rfl⟩, .inl rfl⟩, k__law_alike⟩, PySem.W.mg_of X G a__law_alike⟩,
      d_law := ⟨_, _, ⟨⟨_, _, _, _, _, _, _, _, _, _, rfl, l_law, q_law, .inl ⟨rfl, rfl⟩, .inl rfl⟩, k_law⟩, PySem.W.mg_of X G a_law⟩,
      cl_Sums := ⟨pg_Sums, hd_Sums, po_Sums, sa_Sums⟩,
      mk_Sums := mk_Sums,
      kp_Sums := kc_Sums,
      c_Sums := PySem.W.mg_of X G a_Sums,
      n_Sums_names := n_Sums_names,
      n_Sums_words := n_Sums_words,
      n_Sums_line := n_Sums_line,
      cl_Open := ⟨pg_Open, hd_Open, po_Open, sa_Open⟩,
      mk_Open := mk_Open,
      kp_Open := kc_Open,
      c_Open := PySem.W.mg_of X G a_Open,
      n_Open_words := n_Open_words,
      n_Open_test := n_Open_test,
      n_Open_blocks := n_Open_blocks,
      cl_Reader := ⟨pg_Reader, hd_Reader, po_Reader, sa_Reader⟩,
      mk_Reader := mk_Reader,
      kp_Reader := kc_Reader,
      c_Reader := PySem.W.mg_of X G a_Reader,
      n_Reader_names := n_Reader_names,
      n_Reader_procedures := n_Reader_procedures,
      n_Reader_tower := n_Reader_tower,
      n_Reader_parts := n_Reader_parts,
      n_Reader_has_begun := n_Reader_has_begun,
      c_ShelfError := ⟨_, PySem.W.mg_of X G a_ShelfError, rfl⟩,
      c_BadString := ⟨_, PySem.W.mg_of X G a_BadString, rfl⟩,
      c_BadLine := ⟨_, PySem.W.mg_of X G a_BadLine, rfl⟩,
      c_BadBlock := ⟨_, PySem.W.mg_of X G a_BadBlock, rfl⟩,
      x_BadLine := ⟨⟨_, _, _, _, _, _, _, _, _, _, _, _, _, _, _, x_cls, by show PySem.HandSPX.refsVE [.type "ValueError", .type "Exception", .type "BaseException", .type "object"] = true; decide +kernel⟩, x_sa, xs_BadLine, xt_BadLine, xp_BadLine⟩,
      i_BadLine := ⟨_, _, ⟨⟨_, _, _, _, _, _, _, _, _, _, rfl, l_BadLine___init__, q_BadLine___init__, .inl ⟨rfl, rfl⟩, .inl rfl⟩, k_BadLine___init__⟩, a_BadLine___init__, i_BadLine___init__⟩,
      f_BadLine_line := xl,
      f_BadLine_word := xw,
      xf_BadLine := ⟨xg_BadLine, xk_BadLine, xs_BadLine, xd_BadLine⟩,
      xc_BadLine := ⟨xg_BadLine, xk_BadLine, xs_BadLine, xd_BadLine, xa_BadLine, xn, xtk, xm_BadLine⟩,
      xc_BadString := ⟨xg_BadString, xk_BadString, xs_BadString, xd_BadString, xa_BadString, xn, xtk, xm_BadString⟩,
      in_BadString := xin,
      ty_BadString := xt_BadString,
      kp_BadString := xp_BadString,
      sb_ShelfError := es,
      hd_ShelfError := ed,
      ty_ShelfError := et,
      sb_BadLine := xe_BadLine,
      sb_BadString := xe_BadString,
      ko_BadLine := by unfold PySem.W.kitOne; rw [if_pos (beq_self_eq_true _)],
      ko_BadString := by unfold PySem.W.kitOne; rw [if_pos (beq_self_eq_true _)] }
  exact ⟨PySem.W.fnOf "law" "law" (defArgs st_law) (defBody st_law) (defScope st_law) .none kV_law dc_law pm_law an_law cd_law ct_law, fun s v => .of_eq rfl, fun base _ _ => c_law T ⟨⟨_, _, _, _, _, _, _, _, _, _, rfl, l_law, q_law, .inl ⟨rfl, rfl⟩, .inl rfl⟩, k_law⟩⟩
theorem walk {l : PySem.W.OpenLaw} {q : Program} {loose : List Str} {XP : (Str → Option Value) → Heap → Prop} {YP : World → Heap → Prop} {d : DefRec} {K : Params → PySem.W.Frag} (hn : l.most = some 63) (hdf : d.params.defaults = [])
    (hY : ∀ (w : World) (h : Heap), YP w h → (K w.params).In h)
    (F : ∀ (w : World) (mg : Str → Option Value) (fa : Addr) (h : Heap), (K w.params).In h → h.Ns mainGlobals mg → mg d.name = some (.ref fa) →
      ∃ fd : FuncData, (∀ (s : Shared) (u : Value), BindsTo s fd ⟨[u], []⟩ [("_law_script", u)]) ∧ ∀ base : Heap, (K w.params).In base → base.Ns mainGlobals mg → FnOk l.prog w (K w.params) mg base CX0 31 fa fd ["_law_script"] (spLaw (K w.params))) :
    PySem.W.WalkO q loose XP YP l.row.toRowW d [] (fun f vs => PySem.call f vs) :=
  L2.walk_of (n := 63) (k := 31) (x := "_law_script") (CX := fun _ => CX0) (sp := fun w => spLaw (K w.params)) hn (by decide) hdf ⟨rfl, by decide, by decide⟩ hY F (fun _ _ a ns hl _ hS => ⟨a, ns, rfl, hS, fun _ => rfl⟩) fun _ _ _ _ _ z => z
end RS
end
open PySem PySem.W PyProof.Rows in
set_option maxRecDepth 100000 in
set_option maxHeartbeats 0 in
theorem PySem.Challenge.cw_restlesshelf_k63_whole_blocks_as_text_holds : PySem.Challenge.rw_restlesshelf_k63_whole_blocks_as_text.Holds := by
  w_on; o_law; k_head; (case hw => w_witness2)
  k_fill
  refine RS.walk (l := PySem.Challenge.rw_restlesshelf_k63_whole_blocks_as_text) rfl rfl (fun w h Y => PySem.W.kIn_of Y) ?F
  case F =>
    intro w mg fa h KX G hmg
    refine' RS.all_mk KX G hmg ?zb_len ?zb_isinstance ?zb_str ?zb_tuple ?zb_list ?zb_int ?zb_set ?zb_sum ?zb_max ?zb_range ?zb_enumerate ?zb_bool ?v_MOST_PLACES ?v_MOST_LETTERS ?v_MOST_CONSTANT ?v_MOST_DEPTH ?v_MOST_PARTS ?v_MOST_TERMS ?v_MOST_ROUNDS ?v_MOST_PROCEDURES ?v_LETTERS ?v_FIGURES ?v_KEPT ?l_KEPT ?v_signs ?l_signs ?s_signs ?v_tests ?l_tests ?s_tests ?a_Sums ?a_Open ?a_Reader ?a_ShelfError ?a_BadString ?a_BadLine ?a_BadBlock ?a_BadLine___init__ ?i_BadLine___init__ ?l_BadLine___init__ ?q_BadLine___init__ ?k_BadLine___init__ ?a_is_number ?l_is_number ?q_is_number ?k_is_number ?a_is_name ?l_is_name ?q_is_name ?k_is_name ?a_are_unlike_names ?l_are_unlike_names ?q_are_unlike_names ?k_are_unlike_names ?a_is_sum ?l_is_sum ?q_is_sum ?k_is_sum ?e_is_sum ?a_terms_in ?l_terms_in ?q_terms_in ?k_terms_in ?a_is_whole_sum ?l_is_whole_sum ?q_is_whole_sum ?k_is_whole_sum ?a_is_test ?l_is_test ?q_is_test ?k_is_test ?a_is_part ?l_is_part ?q_is_part ?k_is_part ?a_is_block ?l_is_block ?q_is_block ?k_is_block ?a_blocks_in ?l_blocks_in ?q_blocks_in ?k_blocks_in ?a_parts_in ?l_parts_in ?q_parts_in ?k_parts_in ?a_need_block_program ?l_need_block_program ?q_need_block_program ?k_need_block_program ?a_sum_words ?l_sum_words ?q_sum_words ?k_sum_words ?e_sum_words ?a_test_words ?l_test_words ?q_test_words ?k_test_words ?a_lines_of ?l_lines_of ?q_lines_of ?k_lines_of ?a_write_blocks ?l_write_blocks ?q_write_blocks ?k_write_blocks ?a_number_in ?l_number_in ?q_number_in ?k_number_in ?a_Sums___init__ ?i_Sums___init__ ?l_Sums___init__ ?q_Sums___init__ ?k_Sums___init__ ?a_Sums_fail ?i_Sums_fail ?l_Sums_fail ?q_Sums_fail ?k_Sums_fail ?a_Sums_one ?i_Sums_one ?l_Sums_one ?q_Sums_one ?k_Sums_one ?a_Sums_whole ?i_Sums_whole ?l_Sums_whole ?q_Sums_whole ?k_Sums_whole ?a_deep ?l_deep ?q_deep ?k_deep ?a_Open___init__ ?i_Open___init__ ?l_Open___init__ ?q_Open___init__ ?k_Open___init__ ?e_Open___init__ ?a_Reader___init__ ?i_Reader___init__ ?l_Reader___init__ ?q_Reader___init__ ?k_Reader___init__ ?a_Reader_fail ?i_Reader_fail ?l_Reader_fail ?q_Reader_fail ?k_Reader_fail ?a_Reader_need_size ?i_Reader_need_size ?l_Reader_need_size ?q_Reader_need_size ?k_Reader_need_size ?a_Reader_known ?i_Reader_known ?l_Reader_known ?q_Reader_known ?k_Reader_known ?a_Reader_take ?i_Reader_take ?l_Reader_take ?q_Reader_take ?k_Reader_take ?a_Reader_take_names ?i_Reader_take_names ?l_Reader_take_names ?q_Reader_take_names ?k_Reader_take_names ?a_Reader_take_procedure ?i_Reader_take_procedure ?l_Reader_take_procedure ?q_Reader_take_procedure ?k_Reader_take_procedure ?a_Reader_take_turn ?i_Reader_take_turn ?l_Reader_take_turn ?q_Reader_take_turn ?k_Reader_take_turn ?a_Reader_close ?i_Reader_close ?l_Reader_close ?q_Reader_close ?k_Reader_close ?a_Reader_depth ?i_Reader_depth ?l_Reader_depth ?q_Reader_depth ?k_Reader_depth ?a_Reader_take_part ?i_Reader_take_part ?l_Reader_take_part ?q_Reader_take_part ?k_Reader_take_part ?a_Reader_small_part ?i_Reader_small_part ?l_Reader_small_part ?q_Reader_small_part ?k_Reader_small_part ?a_Reader_sum_to_end ?i_Reader_sum_to_end ?l_Reader_sum_to_end ?q_Reader_sum_to_end ?k_Reader_sum_to_end ?a_Reader_test_of ?i_Reader_test_of ?l_Reader_test_of ?q_Reader_test_of ?k_Reader_test_of ?a_read_blocks ?l_read_blocks ?q_read_blocks ?k_read_blocks ?a__law_taken ?l__law_taken ?q__law_taken ?k__law_taken ?a__law_pick ?l__law_pick ?q__law_pick ?k__law_pick ?a__law_sum ?l__law_sum ?q__law_sum ?k__law_sum ?a__law_block ?l__law_block ?q__law_block ?k__law_block ?a__law_parts ?l__law_parts ?q__law_parts ?k__law_parts ?a__law_program ?l__law_program ?q__law_program ?k__law_program ?a__law_sum_text ?l__law_sum_text ?q__law_sum_text ?k__law_sum_text ?a__law_lines ?l__law_lines ?q__law_lines ?k__law_lines ?a__law_alike ?l__law_alike ?q__law_alike ?k__law_alike ?a_law ?l_law ?q_law ?k_law ?pg_Sums ?hd_Sums ?po_Sums ?sa_Sums ?mk_Sums ?kc_Sums ?n_Sums_names ?n_Sums_words ?n_Sums_line ?pg_Open ?hd_Open ?po_Open ?sa_Open ?mk_Open ?kc_Open ?n_Open_words ?n_Open_test ?n_Open_blocks ?pg_Reader ?hd_Reader ?po_Reader ?sa_Reader ?mk_Reader ?kc_Reader ?n_Reader_names ?n_Reader_procedures ?n_Reader_tower ?n_Reader_parts ?n_Reader_has_begun ?x_cls ?x_sa ?xg_BadLine ?xk_BadLine ?xs_BadLine ?xd_BadLine ?xa_BadLine ?xm_BadLine ?xt_BadLine ?xp_BadLine ?xe_BadLine ?xg_BadString ?xk_BadString ?xs_BadString ?xd_BadString ?xa_BadString ?xm_BadString ?xt_BadString ?xp_BadString ?xe_BadString ?xn ?xtk ?xl ?xw ?xin ?es ?ed ?et
    (case zb_len => k_is)
    (case zb_isinstance => k_is)
    (case zb_str => k_is)
    (case zb_tuple => k_is)
    (case zb_list => k_is)
    (case zb_int => k_is)
    (case zb_set => k_is)
    (case zb_sum => k_is)
    (case zb_max => k_is)
    (case zb_range => k_is)
    (case zb_enumerate => k_is)
    (case zb_bool => k_is)
    (case v_MOST_PLACES => k_is)
    (case v_MOST_LETTERS => k_is)
    (case v_MOST_CONSTANT => k_is)
    (case v_MOST_DEPTH => k_is)
    (case v_MOST_PARTS => k_is)
    (case v_MOST_TERMS => k_is)
    (case v_MOST_ROUNDS => k_is)
    (case v_MOST_PROCEDURES => k_is)
    (case v_LETTERS => k_is)
    (case v_FIGURES => k_is)
    (case v_KEPT => k_is)
    (case l_KEPT => k_is)
    (case v_signs => k_is)
    (case l_signs => k_is)
    (case s_signs => first | rfl | decide +kernel)
    (case v_tests => k_is)
    (case l_tests => k_is)
    (case s_tests => first | rfl | decide +kernel)
    (case a_Sums => k_is)
    (case a_Open => k_is)
    (case a_Reader => k_is)
    (case a_ShelfError => k_is)
    (case a_BadString => k_is)
    (case a_BadLine => k_is)
    (case a_BadBlock => k_is)
    (case a_BadLine___init__ => k_is)
    (case i_BadLine___init__ => k_is)
    (case l_BadLine___init__ => k_is)
    (case q_BadLine___init__ => k_is)
    (case k_BadLine___init__ => k_is)
    (case a_is_number => k_is)
    (case l_is_number => k_is)
    (case q_is_number => k_is)
    (case k_is_number => k_is)
    (case a_is_name => k_is)
    (case l_is_name => k_is)
    (case q_is_name => k_is)
    (case k_is_name => k_is)
    (case a_are_unlike_names => k_is)
    (case l_are_unlike_names => k_is)
    (case q_are_unlike_names => k_is)
    (case k_are_unlike_names => k_is)
    (case a_is_sum => k_is)
    (case l_is_sum => k_is)
    (case q_is_sum => k_is)
    (case k_is_sum => k_is)
    (case e_is_sum => k_is)
    (case a_terms_in => k_is)
    (case l_terms_in => k_is)
    (case q_terms_in => k_is)
    (case k_terms_in => k_is)
    (case a_is_whole_sum => k_is)
    (case l_is_whole_sum => k_is)
    (case q_is_whole_sum => k_is)
    (case k_is_whole_sum => k_is)
    (case a_is_test => k_is)
    (case l_is_test => k_is)
    (case q_is_test => k_is)
    (case k_is_test => k_is)
    (case a_is_part => k_is)
    (case l_is_part => k_is)
    (case q_is_part => k_is)
    (case k_is_part => k_is)
    (case a_is_block => k_is)
    (case l_is_block => k_is)
    (case q_is_block => k_is)
    (case k_is_block => k_is)
    (case a_blocks_in => k_is)
    (case l_blocks_in => k_is)
    (case q_blocks_in => k_is)
    (case k_blocks_in => k_is)
    (case a_parts_in => k_is)
    (case l_parts_in => k_is)
    (case q_parts_in => k_is)
    (case k_parts_in => k_is)
    (case a_need_block_program => k_is)
    (case l_need_block_program => k_is)
    (case q_need_block_program => k_is)
    (case k_need_block_program => k_is)
    (case a_sum_words => k_is)
    (case l_sum_words => k_is)
    (case q_sum_words => k_is)
    (case k_sum_words => k_is)
    (case e_sum_words => k_is)
    (case a_test_words => k_is)
    (case l_test_words => k_is)
    (case q_test_words => k_is)
    (case k_test_words => k_is)
    (case a_lines_of => k_is)
    (case l_lines_of => k_is)
    (case q_lines_of => k_is)
    (case k_lines_of => k_is)
    (case a_write_blocks => k_is)
    (case l_write_blocks => k_is)
    (case q_write_blocks => k_is)
    (case k_write_blocks => k_is)
    (case a_number_in => k_is)
    (case l_number_in => k_is)
    (case q_number_in => k_is)
    (case k_number_in => k_is)
    (case a_Sums___init__ => k_is)
    (case i_Sums___init__ => k_is)
    (case l_Sums___init__ => k_is)
    (case q_Sums___init__ => k_is)
    (case k_Sums___init__ => k_is)
    (case a_Sums_fail => k_is)
    (case i_Sums_fail => k_is)
    (case l_Sums_fail => k_is)
    (case q_Sums_fail => k_is)
    (case k_Sums_fail => k_is)
    (case a_Sums_one => k_is)
    (case i_Sums_one => k_is)
    (case l_Sums_one => k_is)
    (case q_Sums_one => k_is)
    (case k_Sums_one => k_is)
    (case a_Sums_whole => k_is)
    (case i_Sums_whole => k_is)
    (case l_Sums_whole => k_is)
    (case q_Sums_whole => k_is)
    (case k_Sums_whole => k_is)
    (case a_deep => k_is)
    (case l_deep => k_is)
    (case q_deep => k_is)
    (case k_deep => k_is)
    (case a_Open___init__ => k_is)
    (case i_Open___init__ => k_is)
    (case l_Open___init__ => k_is)
    (case q_Open___init__ => k_is)
    (case k_Open___init__ => k_is)
    (case e_Open___init__ => k_is)
    (case a_Reader___init__ => k_is)
    (case i_Reader___init__ => k_is)
    (case l_Reader___init__ => k_is)
    (case q_Reader___init__ => k_is)
    (case k_Reader___init__ => k_is)
    (case a_Reader_fail => k_is)
    (case i_Reader_fail => k_is)
    (case l_Reader_fail => k_is)
    (case q_Reader_fail => k_is)
    (case k_Reader_fail => k_is)
    (case a_Reader_need_size => k_is)
    (case i_Reader_need_size => k_is)
    (case l_Reader_need_size => k_is)
    (case q_Reader_need_size => k_is)
    (case k_Reader_need_size => k_is)
    (case a_Reader_known => k_is)
    (case i_Reader_known => k_is)
    (case l_Reader_known => k_is)
    (case q_Reader_known => k_is)
    (case k_Reader_known => k_is)
    (case a_Reader_take => k_is)
    (case i_Reader_take => k_is)
    (case l_Reader_take => k_is)
    (case q_Reader_take => k_is)
    (case k_Reader_take => k_is)
    (case a_Reader_take_names => k_is)
    (case i_Reader_take_names => k_is)
    (case l_Reader_take_names => k_is)
    (case q_Reader_take_names => k_is)
    (case k_Reader_take_names => k_is)
    (case a_Reader_take_procedure => k_is)
    (case i_Reader_take_procedure => k_is)
    (case l_Reader_take_procedure => k_is)
    (case q_Reader_take_procedure => k_is)
    (case k_Reader_take_procedure => k_is)
    (case a_Reader_take_turn => k_is)
    (case i_Reader_take_turn => k_is)
    (case l_Reader_take_turn => k_is)
    (case q_Reader_take_turn => k_is)
    (case k_Reader_take_turn => k_is)
    (case a_Reader_close => k_is)
    (case i_Reader_close => k_is)
    (case l_Reader_close => k_is)
    (case q_Reader_close => k_is)
    (case k_Reader_close => k_is)
    (case a_Reader_depth => k_is)
    (case i_Reader_depth => k_is)
    (case l_Reader_depth => k_is)
    (case q_Reader_depth => k_is)
    (case k_Reader_depth => k_is)
    (case a_Reader_take_part => k_is)
    (case i_Reader_take_part => k_is)
    (case l_Reader_take_part => k_is)
    (case q_Reader_take_part => k_is)
    (case k_Reader_take_part => k_is)
    (case a_Reader_small_part => k_is)
    (case i_Reader_small_part => k_is)
    (case l_Reader_small_part => k_is)
    (case q_Reader_small_part => k_is)
    (case k_Reader_small_part => k_is)
    (case a_Reader_sum_to_end => k_is)
    (case i_Reader_sum_to_end => k_is)
    (case l_Reader_sum_to_end => k_is)
    (case q_Reader_sum_to_end => k_is)
    (case k_Reader_sum_to_end => k_is)
    (case a_Reader_test_of => k_is)
    (case i_Reader_test_of => k_is)
    (case l_Reader_test_of => k_is)
    (case q_Reader_test_of => k_is)
    (case k_Reader_test_of => k_is)
    (case a_read_blocks => k_is)
    (case l_read_blocks => k_is)
    (case q_read_blocks => k_is)
    (case k_read_blocks => k_is)
    (case a__law_taken => k_is)
    (case l__law_taken => k_is)
    (case q__law_taken => k_is)
    (case k__law_taken => k_is)
    (case a__law_pick => k_is)
    (case l__law_pick => k_is)
    (case q__law_pick => k_is)
    (case k__law_pick => k_is)
    (case a__law_sum => k_is)
    (case l__law_sum => k_is)
    (case q__law_sum => k_is)
    (case k__law_sum => k_is)
    (case a__law_block => k_is)
    (case l__law_block => k_is)
    (case q__law_block => k_is)
    (case k__law_block => k_is)
    (case a__law_parts => k_is)
    (case l__law_parts => k_is)
    (case q__law_parts => k_is)
    (case k__law_parts => k_is)
    (case a__law_program => k_is)
    (case l__law_program => k_is)
    (case q__law_program => k_is)
    (case k__law_program => k_is)
    (case a__law_sum_text => k_is)
    (case l__law_sum_text => k_is)
    (case q__law_sum_text => k_is)
    (case k__law_sum_text => k_is)
    (case a__law_lines => k_is)
    (case l__law_lines => k_is)
    (case q__law_lines => k_is)
    (case k__law_lines => k_is)
    (case a__law_alike => k_is)
    (case l__law_alike => k_is)
    (case q__law_alike => k_is)
    (case k__law_alike => k_is)
    (case a_law => k_is)
    (case l_law => k_is)
    (case q_law => k_is)
    (case k_law => k_is)
    (case pg_Sums => k_is)
    (case hd_Sums => k_is)
    (case po_Sums => k_is)
    (case sa_Sums => k_is)
    (case mk_Sums => k_is)
    (case kc_Sums => k_is)
    (case n_Sums_names => k_is)
    (case n_Sums_words => k_is)
    (case n_Sums_line => k_is)
    (case pg_Open => k_is)
    (case hd_Open => k_is)
    (case po_Open => k_is)
    (case sa_Open => k_is)
    (case mk_Open => k_is)
    (case kc_Open => k_is)
    (case n_Open_words => k_is)
    (case n_Open_test => k_is)
    (case n_Open_blocks => k_is)
    (case pg_Reader => k_is)
    (case hd_Reader => k_is)
    (case po_Reader => k_is)
    (case sa_Reader => k_is)
    (case mk_Reader => k_is)
    (case kc_Reader => k_is)
    (case n_Reader_names => k_is)
    (case n_Reader_procedures => k_is)
    (case n_Reader_tower => k_is)
    (case n_Reader_parts => k_is)
    (case n_Reader_has_begun => k_is)
    (case x_cls => k_is)
    (case x_sa => k_is)
    (case xg_BadLine => k_is)
    (case xk_BadLine => k_is)
    (case xs_BadLine => k_is)
    (case xd_BadLine => k_is)
    (case xa_BadLine => k_is)
    (case xm_BadLine => k_is)
    (case xt_BadLine => k_is)
    (case xp_BadLine => k_is)
    (case xe_BadLine => k_is)
    (case xg_BadString => k_is)
    (case xk_BadString => k_is)
    (case xs_BadString => k_is)
    (case xd_BadString => k_is)
    (case xa_BadString => k_is)
    (case xm_BadString => k_is)
    (case xt_BadString => k_is)
    (case xp_BadString => k_is)
    (case xe_BadString => k_is)
    (case xn => k_is)
    (case xtk => k_is)
    (case xl => k_is)
    (case xw => k_is)
    (case xin => k_exc)
    (case es => k_is)
    (case ed => k_is)
    (case et => k_is)

