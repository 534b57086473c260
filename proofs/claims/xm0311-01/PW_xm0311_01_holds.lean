import PyProof.Rows.All
import Wide.All
import OpenK.AllK
import Wide.FinOn
import KE.KEqDat
import KE.LcTurns
import KE.KCompFold
import KE.KDictNew
import Lean
import PySem.Challenge.RW_xm0311_01
set_option Elab.async false
section
open PySem PySem.W
set_option Elab.async false
namespace Mine

abbrev Cs := List Nat
def letters : Cs := [233, 223, 321, 453, 688, 170, 181, 186, 955, 937, 1078, 1071, 1377, 1513, 1593, 2309, 2453, 2581, 2965, 3093, 3585, 3713, 3904, 4096, 4304, 4352, 4608, 5024, 5121, 5792, 6016, 6176, 12354, 12459, 12549, 19968, 28450, 40960, 44032, 55203, 64257, 65313, 65393, 65353, 65350, 65500]
def signs : Cs := [127, 128, 162, 167, 168, 169, 171, 172, 178, 180, 189, 215, 247, 894, 8212, 8220, 8364, 8482, 8594, 8734, 9731, 12290, 12300, 65281, 65288, 65533, 65535]
def far : Cs := [65536, 66560, 119808, 128512, 131072, 1114111, 55296, 56319, 56320, 57343]

def isAZ (c : Nat) : Bool := (decide (97 ≤ c) && decide (c ≤ 122)) || (decide (65 ≤ c) && decide (c ≤ 90)) || decide (c = 95)
def isDig (c : Nat) : Bool := decide (48 ≤ c) && decide (c ≤ 57)
def nameStart (c : Nat) : Bool := isAZ c || (decide (127 < c) && decide (c ≤ 65535) && Unicode.isAlpha c)
def namePart (c : Nat) : Bool := nameStart c || isDig c
def lineEnd (c : Nat) : Bool := [10, 13, 133, 8232, 8233].contains c
def blanks : Cs := [32, 9, 11, 12, 160, 65279, 5760, 8192, 8193, 8194, 8195, 8196, 8197, 8198, 8199, 8200, 8201, 8202, 8239, 8287, 12288, 10, 13, 133, 8232, 8233]
def isBlank (c : Nat) : Bool := blanks.contains c
def oneSigns : Cs := [59, 44, 40, 41, 123, 125, 91, 93, 126, 58]

def toCs (s : String) : Cs := s.toList.map Char.toNat
def wordsL : List Cs := ["abstract", "as", "base", "bool", "break", "byte", "case", "catch", "char", "checked", "class", "const", "continue", "decimal", "default", "delegate", "do", "double", "else", "enum", "event", "explicit", "extern", "false", "finally", "fixed", "float", "for", "foreach", "goto", "if", "implicit", "in", "int", "interface", "internal", "is", "lock", "long", "namespace", "new", "null", "object", "operator", "out", "override", "params", "private", "protected", "public", "readonly", "ref", "return", "sbyte", "sealed", "short", "sizeof", "stackalloc", "static", "string", "struct", "switch", "this", "throw", "true", "try", "typeof", "uint", "ulong", "unchecked", "unsafe", "ushort", "using", "virtual", "void", "volatile", "while"].map toCs
def nearL : List Cs := ["add", "async", "await", "get", "partial", "remove", "set", "var", "when", "where", "yield"].map toCs
def isWord (n : Cs) : Bool := wordsL.contains n
def isNear (n : Cs) : Bool := nearL.contains n

def strD (cs : Cs) : Dat := .str ⟨cs.toArray⟩
def tokD (k : Int) (v : Dat) (at' : Nat) : Dat := .tuple [.int k, v, .int at']
def fltD (k : Int) (at' : Nat) (ws : List Dat) : Dat := .tuple [.int k, .int at', .tuple ws]
def unit1 (c : Nat) : Cs := if c < 65536 then [c] else [55296 + (c - 65536) / 1024, 56320 + (c - 65536) % 1024]
def units (cs : Cs) : Cs := cs.flatMap unit1
def strange (c : Nat) : Bool := decide (127 ≤ c) && !nameStart c && !isBlank c

def headOk (p : Nat → Bool) : Cs → Prop
  | [] => True
  | c :: _ => p c = true
def numOk (c : Nat) : Bool := !isAZ c && !isDig c && !decide (c = 46)

structure IsName (n : Cs) : Prop where
  start : ∃ c r, n = c :: r ∧ nameStart c = true
  part : ∀ c ∈ n, namePart c = true

inductive Skip1 : Cs → Prop
  | blank (c : Nat) : isBlank c = true → Skip1 [c]
  | line (s : Cs) (e : Nat) : (∀ c ∈ s, lineEnd c = false) → lineEnd e = true → Skip1 (47 :: 47 :: (s ++ [e]))
  | block (s : Cs) : (∀ c ∈ s, c ≠ 42) → Skip1 (47 :: 42 :: (s ++ [42, 47]))

def nums3 : List (Cs × Int) := [([55], 7), ([49, 48], 10), ([48], 0)]

inductive One : Nat → Cs → Cs → List Dat → List Dat → Prop
  | name (pos : Nat) (n rest : Cs) : IsName n → headOk (fun c => !namePart c) rest → One pos n rest [tokD (if isWord n then 2 else 1) (strD n) pos] []
  | num (pos : Nat) (d : Cs) (v : Int) (rest : Cs) : (d, v) ∈ nums3 → headOk numOk rest → One pos d rest [tokD 3 (.tuple [.int v, strD []]) pos] []
  | text (pos : Nat) (s rest : Cs) : (∀ c ∈ s, c ≠ 34 ∧ c ≠ 92 ∧ lineEnd c = false) → One pos (34 :: (s ++ [34])) rest [tokD 4 (strD (units s)) pos] []
  | verb (pos : Nat) (s rest : Cs) : (∀ c ∈ s, c ≠ 34) → headOk (fun c => !decide (c = 34)) rest → One pos (64 :: 34 :: (s ++ [34, 34, 10, 34])) rest [tokD 4 (strD (units s ++ [34, 10])) pos] []
  | chr (pos : Nat) (c : Nat) (rest : Cs) : c ≠ 39 → c ≠ 92 → lineEnd c = false →
      One pos [39, c, 39] rest [tokD 5 (.int (if 65535 < c then 0 else c)) pos] (if 65535 < c then [fltD 1012 pos []] else [])
  | sign (pos : Nat) (c : Nat) (rest : Cs) : c ∈ oneSigns → One pos [c] rest [tokD 6 (strD [c]) pos] []
  | strange (pos : Nat) (c : Nat) (rest : Cs) : strange c = true → One pos [c] rest [] [fltD 1056 pos [strD [c]]]
  | atname (pos : Nat) (n rest : Cs) : IsName n → headOk (fun c => !namePart c) rest →
      One pos (64 :: n) rest [tokD 1 (strD (if isWord n || isNear n then 64 :: n else n)) pos] []
  | atbad (pos : Nat) (rest : Cs) : headOk (fun c => !nameStart c && !decide (c = 34)) rest → One pos [64] rest [] [fltD 1646 pos []]

inductive Lexes : Nat → Cs → List Dat → List Dat → Prop
  | fin (pos : Nat) : Lexes pos [] [] []
  | skip {pos : Nat} {b rest : Cs} {tk fl : List Dat} : Skip1 b → Lexes (pos + b.length) rest tk fl → Lexes pos (b ++ rest) tk fl
  | one {pos : Nat} {a rest : Cs} {t f tk fl : List Dat} : One pos a rest t f → Lexes (pos + a.length) rest tk fl → Lexes pos (a ++ rest) (t ++ tk) (f ++ fl)

structure Bw where
  text : Cs
  name : Cs
  begin : Nat
  marked : Bool
  number : Bool
  toks : List Dat
  flts : List Dat

def endTok (w : Bw) : Dat :=
  if w.marked = false then tokD (if isWord w.name then 2 else 1) (strD w.name) w.begin
  else if isWord w.name || isNear w.name then tokD 1 (strD (64 :: w.name)) w.begin
  else tokD 1 (strD w.name) w.begin
def wEnd (w : Bw) : Bw := if w.name = [] then w else { w with toks := w.toks ++ [endTok w], name := [], marked := false }
def wGap (w : Bw) (run : Cs) : Cs := if w.number = true ∧ run.headD 0 < 128 then w.text ++ [32] else w.text
def wName (w : Bw) (run : Cs) : Bw :=
  { w with text := wGap w run ++ run, begin := if w.name = [] ∧ w.marked = false then (wGap w run).length else w.begin, name := w.name ++ run, number := false }
def wNumber (w : Bw) (d : Cs) (v : Int) : Bw :=
  if w.name ≠ [] then wName w d
  else
    let t := if w.number = true then w.text ++ [32] else w.text
    { w with toks := w.toks ++ [tokD 3 (.tuple [.int v, strD []]) t.length], text := t ++ d, number := true }
def wCode (w : Bw) (c : Nat) : Bw := { w with flts := w.flts ++ [fltD 1056 w.text.length [strD [c]]], text := w.text ++ [c] }
def wStrange (w : Bw) (codes : Cs) : Bw := codes.foldl wCode { wEnd w with number := false }

def runP (v : Nat) : Cs :=
  letters.getD (v % 46) 0 :: (List.range (v / 46 % 4)).map fun j =>
    [55, 95, 113, letters.getD ((v / 46 + 11 * j) % 46) 0].getD ((v / 46 / 4 + j) % 4) 0
def many : Cs := letters ++ signs ++ far
def stuffP (v : Nat) : Cs := (List.range (v % 5)).map fun j => many.getD ((v / 5 + 31 * j) % 83) 0
def wordsP : List Cs := ["if", "in", "int", "as", "is", "class", "get", "var", "when", "_", "x7", "z_9"].map toCs
def mixedP : List Cs := ["ｉｆ", "ifé", "жif", "ｉnt", "inλt"].map toCs
def blanksP : Cs := [32, 10, 160, 12288, 5760, 8195]

def wPut (w : Bw) (s : Cs) (t f : List Dat) : Bw := { w with text := w.text ++ s, toks := w.toks ++ t, flts := w.flts ++ f }
def wMore (w : Bw) (sort v : Nat) : Bw :=
  let at' := w.text.length
  let stuff := stuffP v
  if sort = 9 then let c := oneSigns.getD (v % 10) 0; wPut w [c] [tokD 6 (strD [c]) at'] []
  else if sort = 10 then wPut w [blanksP.getD (v % 6) 0] [] []
  else if sort = 11 then wPut w (34 :: (stuff ++ [34])) [tokD 4 (strD (units stuff)) at'] []
  else if sort = 12 then wPut w (64 :: 34 :: (stuff ++ [34, 34, 10, 34, 32])) [tokD 4 (strD (units stuff ++ [34, 10])) at'] []
  else if sort = 13 then
    let c := many.getD (v % 83) 0
    wPut w [39, c, 39] [tokD 5 (.int (if 65535 < c then 0 else c)) at'] (if 65535 < c then [fltD 1012 at' []] else [])
  else if sort = 14 then
    (if v % 3 = 0 then wPut w (47 :: 47 :: (stuff ++ [10])) [] []
     else if v % 3 = 1 then wPut w (47 :: 47 :: (stuff ++ [8232])) [] []
     else wPut w (47 :: 42 :: (stuff ++ [42, 47])) [] [])
  else
    if v % 3 < 2 then
      wName { wPut w [64] [] [] with begin := at', marked := true } (if v % 3 = 0 then runP (v / 3) else wordsP.getD (v / 3 % 12) [])
    else
      if v / 3 % 2 = 0 then wStrange (wPut w [64] [] [fltD 1646 at' []]) [(signs ++ far).getD (v / 6 % 37) 0]
      else wNumber (wPut w [64] [] [fltD 1646 at' []]) [55] 7
def wPiece (w : Bw) (v : Nat) : Bw :=
  let sort := v % 16
  let v := v / 16
  if sort < 4 then wName w (runP v)
  else if sort = 4 then wName w (wordsP.getD (v % 12) [])
  else if sort = 5 then wName w (mixedP.getD (v % 5) [])
  else if sort = 6 then wNumber w (nums3.getD (v % 3) ([], 0)).1 (nums3.getD (v % 3) ([], 0)).2
  else if sort = 7 then wStrange w [signs.getD (v % 27) 0]
  else if sort = 8 then wStrange w [far.getD (v % 10) 0, far.getD (v / 10 % 10) 0]
  else wMore { wEnd w with number := false } sort v

def w0 : Bw := ⟨[], [], 0, false, false, [], []⟩
def wStart (n : Nat) : Bw := wStrange (wName w0 (letters.drop (n % 46) ++ letters.take (n % 46))) ((signs ++ far).drop (n % 37) ++ (signs ++ far).take (n % 37))
def wAll (nums : List Nat) : Bw := wEnd (nums.foldl wPiece (wStart (nums.headD 0)))
end Mine
end
section
open PySem PySem.W
set_option Elab.async false
namespace Mine

def Pre (text : Cs) (tk fl : List Dat) (P : Cs → Prop) : Prop :=
  ∀ rest tk' fl', P rest → Lexes text.length rest tk' fl' → Lexes 0 (text ++ rest) (tk ++ tk') (fl ++ fl')

theorem Pre.one {text a : Cs} {tk fl t f : List Dat} {P P' : Cs → Prop} (h : Pre text tk fl P) (hP : ∀ r, P' r → P (a ++ r)) (ho : ∀ r, P' r → One text.length a r t f) :
    Pre (text ++ a) (tk ++ t) (fl ++ f) P' := by
  intro rest tk' fl' hr hl
  have q := h (a ++ rest) (t ++ tk') (f ++ fl') (hP rest hr) (.one (ho rest hr) (by rw [List.length_append] at hl; exact hl))
  simpa [List.append_assoc] using q
theorem Pre.skip {text a : Cs} {tk fl : List Dat} {P P' : Cs → Prop} (h : Pre text tk fl P) (hP : ∀ r, P' r → P (a ++ r)) (ho : Skip1 a) : Pre (text ++ a) tk fl P' := by
  intro rest tk' fl' hr hl
  have q := h (a ++ rest) tk' fl' (hP rest hr) (.skip ho (by rw [List.length_append] at hl; exact hl))
  simpa [List.append_assoc] using q
theorem Pre.mono {text : Cs} {tk fl : List Dat} {P P' : Cs → Prop} (h : Pre text tk fl P) (hP : ∀ r, P' r → P r) : Pre text tk fl P' := fun rest tk' fl' hr hl => h rest tk' fl' (hP rest hr) hl

def sep (c : Nat) : Bool := !namePart c && !decide (c = 46)
theorem sep_num {c : Nat} (h : sep c = true) : numOk c = true := by
  simp only [sep, namePart, nameStart, numOk, Bool.and_eq_true, Bool.not_eq_true', Bool.or_eq_false_iff] at h ⊢
  exact ⟨⟨h.1.1.1, h.1.2⟩, h.2⟩
theorem sep_part {c : Nat} (h : sep c = true) : (!namePart c) = true := by
  simp only [sep, Bool.and_eq_true] at h
  exact h.1
theorem headOk_mono {p q : Nat → Bool} (h : ∀ c, p c = true → q c = true) : ∀ {r : Cs}, headOk p r → headOk q r
  | [], _ => trivial
  | c :: _, x => h c x

def openTxt (w : Bw) : Cs := (if w.marked = true then [64] else []) ++ w.name
inductive Inv (w : Bw) : Prop
  | shut : w.name = [] → w.marked = false → Pre w.text w.toks w.flts (fun r => w.number = true → headOk numOk r) → Inv w
  | opn (pre : Cs) (P : Cs → Prop) : IsName w.name → w.number = false → w.begin = pre.length → w.text = pre ++ openTxt w → Pre pre w.toks w.flts P → (∀ r, P (openTxt w ++ r)) → Inv w

structure Shut (w : Bw) (P : Cs → Prop) : Prop where
  name : w.name = []
  marked : w.marked = false
  pre : Pre w.text w.toks w.flts P

theorem inv_end {w : Bw} (h : Inv w) : Shut (wEnd w) (headOk sep) := by
  cases h with
  | shut hn hm hp =>
    have e : wEnd w = w := by unfold wEnd; rw [if_pos hn]
    rw [e]
    exact ⟨hn, hm, hp.mono fun r hr _ => headOk_mono (fun c => sep_num) hr⟩
  | opn pre P hN hnum hb ht hp hP =>
    have hne : w.name ≠ [] := by obtain ⟨c, r, e, _⟩ := hN.start; rw [e]; simp
    have e : wEnd w = { w with toks := w.toks ++ [endTok w], name := [], marked := false } := by unfold wEnd; rw [if_neg hne]
    rw [e]
    refine ⟨rfl, rfl, ?_⟩
    dsimp only
    rw [ht]
    have q : w.flts = w.flts ++ [] := by simp
    rw [q]
    refine hp.one (fun r _ => hP r) fun r hr => ?_
    have hr' : headOk (fun c => !namePart c) r := headOk_mono (fun c => sep_part) hr
    unfold openTxt endTok
    rw [hb]
    cases hm : w.marked with
    | false =>
      simp only [Bool.false_eq_true, if_false, List.nil_append, if_true]
      exact .name _ _ _ hN hr'
    | true =>
      simp only [if_true, Bool.true_eq_false, if_false, List.cons_append, List.nil_append]
      have o := One.atname pre.length _ _ hN hr'
      by_cases hq : (isWord w.name || isNear w.name) = true
      · rw [if_pos hq] at o ⊢; exact o
      · rw [if_neg hq] at o ⊢; exact o

theorem shut_inv {w : Bw} {P : Cs → Prop} (h : Shut w P) (hP : ∀ r, (w.number = true → headOk numOk r) → P r) : Inv w := .shut h.name h.marked (h.pre.mono hP)

theorem shut_put {w : Bw} {P P' : Cs → Prop} {a : Cs} {t f : List Dat} (h : Shut w P) (hP : ∀ r, P' r → P (a ++ r)) (ho : ∀ r, P' r → One w.text.length a r t f) : Shut (wPut w a t f) P' :=
  ⟨h.name, h.marked, h.pre.one hP ho⟩
theorem shut_skip {w : Bw} {P P' : Cs → Prop} {a : Cs} (h : Shut w P) (hP : ∀ r, P' r → P (a ++ r)) (ho : Skip1 a) : Shut (wPut w a [] []) P' :=
  ⟨h.name, h.marked, by have := h.pre.skip hP ho; simpa [wPut] using this⟩

theorem part_of_start {c : Nat} (h : nameStart c = true) : namePart c = true := by unfold namePart; rw [h]; rfl
theorem numOk_of_ge {c : Nat} (h : 128 ≤ c) : numOk c = true := by
  simp only [numOk, isAZ, isDig, Bool.and_eq_true, Bool.not_eq_true', Bool.or_eq_false_iff, Bool.and_eq_false_iff, decide_eq_false_iff_not, decide_eq_true_eq]
  lia
theorem isName_app {n m : Cs} (h : IsName n) (hm : ∀ c ∈ m, namePart c = true) : IsName (n ++ m) := by
  obtain ⟨c, r, e, hc⟩ := h.start
  refine ⟨⟨c, r ++ m, by rw [e]; rfl, hc⟩, fun x hx => ?_⟩
  rcases List.mem_append.mp hx with hx | hx
  · exact h.part x hx
  · exact hm x hx

theorem inv_name {w : Bw} {run : Cs} (h : Inv w) (hr : IsName run) : Inv (wName w run) := by
  obtain ⟨c, r, e, hc⟩ := hr.start
  cases h with
  | shut hn hm hp =>
    have hb : (if w.name = [] ∧ w.marked = false then (wGap w run).length else w.begin) = (wGap w run).length := if_pos ⟨hn, hm⟩
    by_cases hg : w.number = true ∧ run.headD 0 < 128
    · have eg : wGap w run = w.text ++ [32] := if_pos hg
      refine .opn (w.text ++ [32]) (fun _ => True) ?_ rfl ?_ ?_ ?_ (fun _ => trivial)
      · show IsName (w.name ++ run); rw [hn]; exact hr
      · show (if w.name = [] ∧ w.marked = false then (wGap w run).length else w.begin) = _; rw [hb, eg]
      · show wGap w run ++ run = _; rw [eg]; unfold openTxt; show _ = _ ++ ((if w.marked = true then [64] else []) ++ (w.name ++ run)); rw [hm, hn]; rfl
      · exact hp.skip (fun r _ _ => by show numOk 32 = true; decide) (.blank 32 (by decide))
    · have eg : wGap w run = w.text := if_neg hg
      refine .opn w.text _ ?_ rfl ?_ ?_ hp (fun r' hnum => ?_)
      · show IsName (w.name ++ run); rw [hn]; exact hr
      · show (if w.name = [] ∧ w.marked = false then (wGap w run).length else w.begin) = _; rw [hb, eg]
      · show wGap w run ++ run = _; rw [eg]; unfold openTxt; show _ = _ ++ ((if w.marked = true then [64] else []) ++ (w.name ++ run)); rw [hm, hn]; rfl
      · have : openTxt (wName w run) = run := by unfold openTxt; show (if w.marked = true then [64] else []) ++ (w.name ++ run) = run; rw [hm, hn]; rfl
        rw [this, e]
        show numOk c = true
        refine numOk_of_ge (Nat.le_of_not_lt fun hlt => hg ⟨hnum, ?_⟩)
        rw [e]; exact hlt
  | opn pre P hN hnum hb ht hp hP =>
    have hne : w.name ≠ [] := by obtain ⟨c, r, e, _⟩ := hN.start; rw [e]; simp
    have eg : wGap w run = w.text := if_neg (by rw [hnum]; simp)
    have eo : openTxt (wName w run) = openTxt w ++ run := by unfold openTxt; show (if w.marked = true then [64] else []) ++ (w.name ++ run) = _; rw [List.append_assoc]
    refine .opn pre P (isName_app hN hr.part) rfl ?_ ?_ hp (fun r' => ?_)
    · show (if w.name = [] ∧ w.marked = false then (wGap w run).length else w.begin) = _; rw [if_neg (fun x => hne x.1)]; exact hb
    · rw [eo]; show wGap w run ++ run = _; rw [eg, ht, List.append_assoc]
    · rw [eo, List.append_assoc]; exact hP _

theorem nums3_dig {d : Cs} {v : Int} (h : (d, v) ∈ nums3) : (∀ c ∈ d, isDig c = true) ∧ d ≠ [] := by
  simp only [nums3, List.mem_cons, Prod.mk.injEq, List.not_mem_nil, or_false] at h
  rcases h with ⟨rfl, _⟩ | ⟨rfl, _⟩ | ⟨rfl, _⟩ <;> decide
theorem shut_number {w : Bw} {P : Cs → Prop} {d : Cs} {v : Int} (h : Shut w P) (hd : (d, v) ∈ nums3) (hP : w.number = false → ∀ r, P (d ++ r)) (hQ : w.number = true → ∀ r, headOk numOk r → P r) : Inv (wNumber w d v) := by
  have e : wNumber w d v = { w with toks := w.toks ++ [tokD 3 (.tuple [.int v, strD []]) (if w.number = true then w.text ++ [32] else w.text).length], text := (if w.number = true then w.text ++ [32] else w.text) ++ d, number := true } := by
    unfold wNumber; rw [if_neg (by rw [h.name]; simp)]
  rw [e]
  refine .shut h.name h.marked ?_
  show Pre _ _ w.flts (fun r => true = true → headOk numOk r)
  have q : w.flts = w.flts ++ [] := by simp
  rw [q]
  cases hn : w.number with
  | false =>
    simp only [Bool.false_eq_true, if_false]
    exact h.pre.one (fun r _ => hP hn r) fun r hr => .num _ _ _ _ hd (hr trivial)
  | true =>
    simp only [if_true]
    exact (h.pre.skip (P' := fun _ => True) (fun r _ => hQ hn _ (by show numOk 32 = true; decide)) (.blank 32 (by decide))).one (fun _ _ => trivial) fun r hr => .num _ _ _ _ hd (hr trivial)
theorem inv_number {w : Bw} {d : Cs} {v : Int} (h : Inv w) (hd : (d, v) ∈ nums3) : Inv (wNumber w d v) := by
  cases h with
  | shut hn hm hp => exact shut_number ⟨hn, hm, hp⟩ hd (fun e _ x => by rw [e] at x; cases x) fun _ _ hr _ => hr
  | opn pre P hN hnum hb ht hp hP =>
    have hne : w.name ≠ [] := by obtain ⟨c, r, e, _⟩ := hN.start; rw [e]; simp
    have e : wNumber w d v = wName w d := by unfold wNumber; rw [if_pos hne]
    have eg : wGap w d = w.text := if_neg (by rw [hnum]; simp)
    have eo : openTxt (wName w d) = openTxt w ++ d := by unfold openTxt; show (if w.marked = true then [64] else []) ++ (w.name ++ d) = _; rw [List.append_assoc]
    rw [e]
    refine .opn pre P (isName_app hN fun c hc => by unfold namePart; rw [(nums3_dig hd).1 c hc, Bool.or_true]) rfl ?_ ?_ hp (fun r' => ?_)
    · show (if w.name = [] ∧ w.marked = false then (wGap w d).length else w.begin) = _; rw [if_neg (fun x => hne x.1)]; exact hb
    · rw [eo]; show wGap w d ++ d = _; rw [eg, ht, List.append_assoc]
    · rw [eo, List.append_assoc]; exact hP _

theorem strange_sep {c : Nat} (h : strange c = true) : sep c = true := by
  simp only [strange, sep, namePart, isDig, Bool.and_eq_true, Bool.not_eq_true', Bool.or_eq_false_iff, Bool.and_eq_false_iff, decide_eq_false_iff_not, decide_eq_true_eq] at h ⊢
  refine ⟨⟨h.1.2, ?_⟩, ?_⟩ <;> lia
theorem strange_start {c : Nat} (h : strange c = true) : (!nameStart c && !decide (c = 34)) = true := by
  simp only [strange, Bool.and_eq_true, Bool.not_eq_true', decide_eq_false_iff_not, decide_eq_true_eq] at h ⊢
  exact ⟨h.1.2, by lia⟩
theorem shut_codes {codes : Cs} : ∀ {w : Bw} {P : Cs → Prop}, Shut w P → (∀ c r, strange c = true → P (c :: r)) → (∀ c ∈ codes, strange c = true) → codes ≠ [] → Shut (codes.foldl wCode w) (fun _ => True) := by
  induction codes with
  | nil => intro w P _ _ _ h; exact absurd rfl h
  | cons c r ih =>
    intro w P h hP hs _
    have h1 : Shut (wCode w c) (fun _ => True) := by
      have q := shut_put (P' := fun _ => True) (a := [c]) (t := []) (f := [fltD 1056 w.text.length [strD [c]]]) h (fun r _ => hP c r (hs c (.head _))) fun r _ => .strange _ _ _ (hs c (.head _))
      have e : wCode w c = wPut w [c] [] [fltD 1056 w.text.length [strD [c]]] := by simp [wCode, wPut]
      rw [e]; exact q
    by_cases hr : r = []
    · subst hr; exact h1
    · exact ih h1 (fun _ _ _ => trivial) (fun x hx => hs x (.tail _ hx)) hr
theorem foldl_number {codes : Cs} : ∀ {w : Bw}, (codes.foldl wCode w).number = w.number := by
  induction codes with
  | nil => intro w; rfl
  | cons c r ih => intro w; exact ih
theorem inv_strange {w : Bw} {P : Cs → Prop} {codes : Cs} (h : Shut (wEnd w) P) (hP : ∀ c r, strange c = true → P (c :: r)) (hs : ∀ c ∈ codes, strange c = true) (hne : codes ≠ []) : Inv (wStrange w codes) := by
  have h1 : Shut ({ wEnd w with number := false }) P := ⟨h.name, h.marked, h.pre⟩
  have q := shut_codes h1 hP hs hne
  refine .shut q.name q.marked (q.pre.mono fun r _ => trivial)

theorem letters_ok : letters.all (fun c => nameStart c && decide (128 ≤ c)) = true := by decide +kernel
theorem strange_ok : (signs ++ far).all strange = true := by decide +kernel
theorem many_ok : many.all (fun c => !decide (c = 34) && !decide (c = 92) && !decide (c = 39) && !decide (c = 42) && !lineEnd c) = true := by decide +kernel
theorem getD_mem {l : Cs} {i : Nat} (h : i < l.length) : l.getD i 0 ∈ l := by
  rw [List.getD_eq_getElem?_getD, List.getElem?_eq_getElem h]; exact List.getElem_mem h
theorem letter_at (i : Nat) : nameStart (letters.getD (i % 46) 0) = true := by
  have := List.all_eq_true.mp letters_ok _ (getD_mem (l := letters) (i := i % 46) (Nat.mod_lt _ (by decide)))
  simp only [Bool.and_eq_true] at this; exact this.1
theorem strange_at (l : Cs) (hl : ∀ c ∈ l, c ∈ signs ++ far) {i : Nat} (h : i < l.length) : strange (l.getD i 0) = true :=
  List.all_eq_true.mp strange_ok _ (hl _ (getD_mem h))
theorem many_at (c : Nat) (h : c ∈ many) : c ≠ 34 ∧ c ≠ 92 ∧ c ≠ 39 ∧ c ≠ 42 ∧ lineEnd c = false := by
  have := List.all_eq_true.mp many_ok c h
  simp only [Bool.and_eq_true, Bool.not_eq_true', decide_eq_false_iff_not] at this
  exact ⟨this.1.1.1.1, this.1.1.1.2, this.1.1.2, this.1.2, this.2⟩
theorem stuff_many {v c : Nat} (h : c ∈ stuffP v) : c ∈ many := by
  unfold stuffP at h
  obtain ⟨j, _, rfl⟩ := List.mem_map.mp h
  exact getD_mem (Nat.lt_of_lt_of_eq (Nat.mod_lt _ (by decide)) (by decide))
theorem run_isName (v : Nat) : IsName (runP v) := by
  refine ⟨⟨_, _, rfl, letter_at _⟩, fun c hc => ?_⟩
  unfold runP at hc
  rcases List.mem_cons.mp hc with rfl | hc
  · exact part_of_start (letter_at _)
  · obtain ⟨j, _, rfl⟩ := List.mem_map.mp hc
    have : (v / 46 / 4 + j) % 4 = 0 ∨ (v / 46 / 4 + j) % 4 = 1 ∨ (v / 46 / 4 + j) % 4 = 2 ∨ (v / 46 / 4 + j) % 4 = 3 := by lia
    rcases this with e | e | e | e <;> rw [e]
    · show namePart 55 = true; decide
    · show namePart 95 = true; decide
    · show namePart 113 = true; decide
    · exact part_of_start (letter_at _)
def isNameB : Cs → Bool
  | [] => false
  | c :: r => nameStart c && (c :: r).all namePart
theorem isName_of {n : Cs} (h : isNameB n = true) : IsName n := by
  cases n with
  | nil => cases h
  | cons c r =>
    simp only [isNameB, Bool.and_eq_true, List.all_eq_true] at h
    exact ⟨⟨c, r, rfl, h.1⟩, h.2⟩
theorem words_ok : wordsP.all isNameB = true := by decide +kernel
theorem mixed_ok : mixedP.all isNameB = true := by decide +kernel
theorem getD_memL {l : List Cs} {i : Nat} (h : i < l.length) : l.getD i [] ∈ l := by
  rw [List.getD_eq_getElem?_getD, List.getElem?_eq_getElem h]; exact List.getElem_mem h
theorem word_isName (i : Nat) : IsName (wordsP.getD (i % 12) []) := isName_of (List.all_eq_true.mp words_ok _ (getD_memL (Nat.mod_lt _ (by decide))))
theorem mixed_isName (i : Nat) : IsName (mixedP.getD (i % 5) []) := isName_of (List.all_eq_true.mp mixed_ok _ (getD_memL (Nat.mod_lt _ (by decide))))
theorem nums3_at (i : Nat) : (nums3.getD (i % 3) ([], 0)) ∈ nums3 := by
  have : i % 3 = 0 ∨ i % 3 = 1 ∨ i % 3 = 2 := by lia
  rcases this with e | e | e <;> rw [e] <;> decide

theorem inv_more {w : Bw} (h : Shut w (headOk sep)) (hn : w.number = false) (sort v : Nat) : Inv (wMore w sort v) := by
  have shutInv : ∀ {w' : Bw}, Shut w' (fun _ => True) → Inv w' := fun h' => shut_inv h' fun _ _ => trivial
  unfold wMore
  dsimp only
  split
  · have hc : oneSigns.getD (v % 10) 0 ∈ oneSigns := getD_mem (Nat.mod_lt _ (by decide))
    refine shutInv (shut_put h (fun r _ => ?_) fun r _ => .sign _ _ _ hc)
    have : oneSigns.all sep = true := by decide +kernel
    exact List.all_eq_true.mp this _ hc
  split
  · have hc : blanksP.getD (v % 6) 0 ∈ blanksP := getD_mem (Nat.mod_lt _ (by decide))
    have : blanksP.all (fun c => sep c && isBlank c) = true := by decide +kernel
    have := List.all_eq_true.mp this _ hc
    simp only [Bool.and_eq_true] at this
    exact shutInv (shut_skip h (fun r _ => this.1) (.blank _ this.2))
  split
  · refine shutInv (shut_put h (fun r _ => by show sep 34 = true; decide +kernel) fun r _ => .text _ _ _ fun c hc => ?_)
    have := many_at c (stuff_many hc)
    exact ⟨this.1, this.2.1, this.2.2.2.2⟩
  split
  · have h1 := shut_put (P' := headOk (fun c => !decide (c = 34))) h (a := 64 :: 34 :: (stuffP v ++ [34, 34, 10, 34])) (f := []) (fun r _ => by show sep 64 = true; decide +kernel) fun r hr => .verb _ (stuffP v) _ (fun c hc => (many_at c (stuff_many hc)).1) hr
    have h2 := shut_skip (P' := fun _ => True) h1 (a := [32]) (fun r _ => by show (!decide (32 = 34)) = true; decide) (.blank 32 (by decide))
    have e : wPut (wPut w (64 :: 34 :: (stuffP v ++ [34, 34, 10, 34])) [tokD 4 (strD (units (stuffP v) ++ [34, 10])) w.text.length] []) [32] [] [] =
        wPut w (64 :: 34 :: (stuffP v ++ [34, 34, 10, 34, 32])) [tokD 4 (strD (units (stuffP v) ++ [34, 10])) w.text.length] [] := by simp [wPut]
    rw [e] at h2
    exact shutInv h2
  split
  · have hc : many.getD (v % 83) 0 ∈ many := getD_mem (Nat.lt_of_lt_of_eq (Nat.mod_lt _ (by decide)) (by decide))
    have := many_at _ hc
    exact shutInv (shut_put h (fun r _ => by show sep 39 = true; decide +kernel) fun r _ => .chr _ _ _ this.2.2.1 this.2.1 this.2.2.2.2)
  split
  · split
    · exact shutInv (shut_skip h (fun r _ => by show sep 47 = true; decide +kernel) (.line _ 10 (fun c hc => (many_at c (stuff_many hc)).2.2.2.2) (by decide)))
    split
    · exact shutInv (shut_skip h (fun r _ => by show sep 47 = true; decide +kernel) (.line _ 8232 (fun c hc => (many_at c (stuff_many hc)).2.2.2.2) (by decide)))
    · exact shutInv (shut_skip h (fun r _ => by show sep 47 = true; decide +kernel) (.block _ (fun c hc => (many_at c (stuff_many hc)).2.2.2.1)))
  split
  · -- @ before a name
    have go : ∀ run : Cs, IsName run → Inv (wName { wPut w [64] [] [] with begin := w.text.length, marked := true } run) := by
      intro run hr
      refine .opn w.text (headOk sep) ?_ rfl ?_ ?_ ?_ (fun r => ?_)
      · show IsName (w.name ++ run); rw [h.name]; exact hr
      · show (if w.name = [] ∧ true = false then _ else w.text.length) = _; rw [if_neg (by simp)]
      · have eg : wGap { wPut w [64] [] [] with begin := w.text.length, marked := true } run = w.text ++ [64] := if_neg (by show ¬ (w.number = true ∧ _); rw [hn]; simp)
        show wGap _ run ++ run = w.text ++ ([64] ++ (w.name ++ run))
        rw [eg, h.name]; simp
      · have := h.pre; simpa [wName, wPut] using this
      · show sep 64 = true; decide +kernel
    split
    · exact go _ (run_isName _)
    · exact go _ (word_isName _)
  · have h1 := shut_put (P' := headOk (fun c => !nameStart c && !decide (c = 34))) h (a := [64]) (t := []) (f := [fltD 1646 w.text.length []]) (fun r _ => by show sep 64 = true; decide +kernel) fun r hr => .atbad _ _ hr
    have hn1 : (wPut w [64] [] [fltD 1646 w.text.length []]).number = false := hn
    split
    · have he : wEnd (wPut w [64] [] [fltD 1646 w.text.length []]) = wPut w [64] [] [fltD 1646 w.text.length []] := if_pos h1.name
      refine inv_strange (by rw [he]; exact h1) (fun c r hc => strange_start hc) (fun c hc => ?_) (by simp)
      rw [List.mem_singleton.mp hc]
      exact strange_at _ (fun c hc => hc) (Nat.lt_of_lt_of_eq (Nat.mod_lt _ (by decide)) (by decide))
    · exact shut_number h1 (by decide) (fun _ r => by show (!nameStart 55 && !decide (55 = 34)) = true; decide +kernel) (fun x => by rw [hn1] at x; cases x)

theorem inv_piece {w : Bw} (h : Inv w) (v : Nat) : Inv (wPiece w v) := by
  unfold wPiece
  dsimp only
  split
  · exact inv_name h (run_isName _)
  split
  · exact inv_name h (word_isName _)
  split
  · exact inv_name h (mixed_isName _)
  split
  · exact inv_number h (nums3_at _)
  split
  · refine inv_strange (inv_end h) (fun c r hc => strange_sep hc) (fun c hc => ?_) (by simp)
    rw [List.mem_singleton.mp hc]
    exact strange_at _ (fun c hc => List.mem_append.mpr (.inl hc)) (Nat.mod_lt _ (by decide))
  split
  · refine inv_strange (inv_end h) (fun c r hc => strange_sep hc) (fun c hc => ?_) (by simp)
    rcases List.mem_cons.mp hc with rfl | hc
    · exact strange_at _ (fun c hc => List.mem_append.mpr (.inr hc)) (Nat.mod_lt _ (by decide))
    · rw [List.mem_singleton.mp hc]
      exact strange_at _ (fun c hc => List.mem_append.mpr (.inr hc)) (Nat.mod_lt _ (by decide))
  · have h1 := inv_end h
    exact inv_more (w := { wEnd w with number := false }) ⟨h1.name, h1.marked, h1.pre⟩ rfl _ _

theorem inv_start (n : Nat) : Inv (wStart n) := by
  have h0 : Inv w0 := .shut rfl rfl (fun rest tk' fl' _ hl => hl)
  have hmem : ∀ c ∈ letters.drop (n % 46) ++ letters.take (n % 46), nameStart c = true := by
    intro c hc
    have hc' : c ∈ letters := by
      rcases List.mem_append.mp hc with hc | hc
      · exact List.mem_of_mem_drop hc
      · exact List.mem_of_mem_take hc
    have := List.all_eq_true.mp letters_ok c hc'
    simp only [Bool.and_eq_true] at this; exact this.1
  have hne : letters.drop (n % 46) ++ letters.take (n % 46) ≠ [] := by
    intro e
    have : (letters.drop (n % 46) ++ letters.take (n % 46)).length = 0 := by rw [e]; rfl
    simp only [List.length_append, List.length_drop, List.length_take] at this
    have h46 : letters.length = 46 := by decide
    lia
  have hN : IsName (letters.drop (n % 46) ++ letters.take (n % 46)) := by
    refine ⟨?_, fun c hc => part_of_start (hmem c hc)⟩
    cases e : letters.drop (n % 46) ++ letters.take (n % 46) with
    | nil => exact absurd e hne
    | cons c r => exact ⟨c, r, rfl, hmem c (by rw [e]; exact .head _)⟩
  unfold wStart
  refine inv_strange (inv_end (inv_name h0 hN)) (fun c r hc => strange_sep hc) (fun c hc => ?_) ?_
  · refine List.all_eq_true.mp strange_ok c ?_
    rcases List.mem_append.mp hc with hc | hc
    · exact List.mem_of_mem_drop hc
    · exact List.mem_of_mem_take hc
  · intro e
    have : ((signs ++ far).drop (n % 37) ++ (signs ++ far).take (n % 37)).length = 0 := by rw [e]; rfl
    simp only [List.length_drop, List.length_take, List.length_append] at this
    have h37 : signs.length = 27 := by decide
    have h10 : far.length = 10 := by decide
    lia
theorem inv_fold {nums : List Nat} : ∀ {w : Bw}, Inv w → Inv (nums.foldl wPiece w) := by
  induction nums with
  | nil => intro w h; exact h
  | cons v r ih => intro w h; exact ih (inv_piece h v)
theorem law_lexes (nums : List Nat) : Lexes 0 (wAll nums).text (wAll nums).toks (wAll nums).flts := by
  have h := inv_end (inv_fold (nums := nums) (inv_start (nums.headD 0)))
  have := h.pre [] [] [] trivial (.fin _)
  simpa [wAll] using this
end Mine
end
section
open PySem PySem.W PySem.Calls PySem.Spec PyProof.Rows
set_option Elab.async false
set_option maxRecDepth 100000
namespace Mine

abbrev Led := List (Addr × Obj)
structure Wd where
  prog : Program
  w : World
  K : Frag
  p : Program
  loose : List Str
  mean : ExcName → Option Value
  mg : Str → Option Value
  mb : Str → Option Value
abbrev Wd.M (W : Wd) : Model := model W.prog W.w

structure Gd (W : Wd) (base : Heap) (outer : List Env) (g : Heap) : Prop where
  B : ∃ A₀, Below A₀ base outer g
  X : W.K.In g
  T : Top W.p W.loose W.mean W.mg W.mb g

structure Cx where
  dp : Nat
  un : Nat
  gd : Option (List Code)
  cn : Str
  cs : Scope
  L : Addr
  a : Addr
  ccd : Value
  outer : List Env
  cl : List (Str × Addr)
abbrev Cx.env (c : Cx) : Env := envX c.cn c.cs c.L c.a c.ccd c.cl
abbrev Cx.A (c : Cx) : Around := ktrTop c.dp c.un c.gd c.cn c.cs c.L c.a c.ccd c.cl c.outer
structure Room (c : Cx) (n : Nat) : Prop where
  dp : c.dp + n < 700
  un : c.un + 100 * n < 9000
structure Wk (W : Wd) (base : Heap) (c : Cx) (g : Heap) (sc : Scope) (n : Nat) : Prop where
  G : Gd W base c.outer g
  cs : c.cs = sc
  kind : sc.kind = .function
  room : Room c n
abbrev st (s : Shared) (h : Heap) (tk : Nat) : Shared := { s with heap := h, toks := tk }

def Ct (W : Wd) (f : Addr) (vs : List Value) (n : Nat) (news : Led) (P : Value → Led → Prop) : Prop :=
  ∀ (c : Cx) (base g : Heap) (m : Str → Option Value) (s : Shared) (h : Heap) (tk : Nat) (Q E : Value → Shared → Prop),
    Gd W base c.outer g → Fr g c.L h m → News g c.L h news → c.cs.kind = .function → Room c n →
    (∀ r news' h' tk', Fr g c.L h' m → News g c.L h' news' → P r news' → Q r (st s h' tk')) →
    wpAny W.M c.A (call (.ref f) vs) Q E (st s h tk)

def Done (c : Cx) (g : Heap) (s : Shared) (P : Value → Led → Prop) (fl : Flow) (s' : Shared) : Prop :=
  ∃ h' tk' m' news', s' = st s h' tk' ∧ Fr g c.L h' m' ∧ News g c.L h' news' ∧ P (match fl with | .ret v => v | _ => .none) news'

def FnF (K : Frag) (f : Addr) (qual : Str) (params : Arguments) (body : List Stmt) (scope : Scope) : Prop :=
  ∃ name oc od doc pm an cdv ct osl, K.lookup f = some ⟨oc, od, .func (fnOf name qual params body scope .none .none doc pm an cdv ct), osl⟩ ∧ codeIn K cdv qual = true

theorem enter {W : Wd} {f : Addr} {qual : Str} {params : Arguments} {body : List Stmt} {scope : Scope} {vs : List Value} {n : Nat} {news : Led} {P : Value → Led → Prop}
    (hf : FnF W.K f qual params body scope)
    (hbind : ∀ name doc pm an cdv ct, bindArgs (fnOf name qual params body scope .none .none doc pm an cdv ct) ⟨vs, []⟩ = pure ((params.args.map (·.arg)).zip vs))
    (hloc : ∀ y ∈ (params.args.map (·.arg)).zip vs, scope.names.lookup y.1 = some .local) (hco : scope.isCoroutine = false) (hgen : scope.isGenerator = false) (hk : scope.kind = .function)
    (hcell : ∀ x ∈ scope.names, x.2 ≠ .cell)
    (hb : ∀ (c : Cx) (base g : Heap) (m : Str → Option Value) (s : Shared) (h : Heap) (tk : Nat), Wk W base c g scope n → Fr g c.L h m → News g c.L h news →
      (∀ x, m x = ((params.args.map (·.arg)).zip vs).reverse.lookup x) →
      wpAny W.M c.A (execs body c.env) (Done c g s P) (fun _ _ => False) (st s h tk)) : Ct W f vs (n + 1) news P := by
  intro c base g m s h tk Q E G F N hck room ret
  obtain ⟨name, oc, od, doc, pm, an, cdv, ct, osl, ho, hcd⟩ := hf
  obtain ⟨A₀, B⟩ := G.B
  refine wpAny_call ?_
  refine code_def (K := W.K) (A₀ := A₀) (base := base) (outer := c.outer) (env := c.env) B F G.X N G.T rfl rfl hck ho hcd (by have := room.dp; show c.dp < 1000; lia) (.of_eq (hbind _ _ _ _ _ _)) hloc (fun g' L' h₁ FG F' N' B' X' T' => ?_) hco hgen hk hcell
  have room' : Room ⟨c.dp + 1, c.un + 3, c.gd, qual, scope, L', f, cdv, c.env :: c.outer, []⟩ n := by
    have r1 := room.dp; have r2 := room.un
    constructor <;> dsimp only <;> lia
  refine wpAny_mono (hb ⟨c.dp + 1, c.un + 3, c.gd, qual, scope, L', f, cdv, c.env :: c.outer, []⟩ base g' _ s h₁ _ ⟨⟨⟨_, B'⟩, X', T'⟩, rfl, hk, room'⟩ F' N' (fun x => rfl)) (fun fl s' hd => ?_) fun _ _ hh => hh.elim
  obtain ⟨h', tk', m', news', rfl, F2, N2, hp⟩ := hd
  exact leaveK_ F2 N2 fun F3 N3 => ret _ _ _ _ F3 N3 hp

end Mine
end
section
open PySem PySem.W PySem.Calls PySem.Spec PyProof.Rows
set_option Elab.async false
set_option maxRecDepth 100000
namespace Mine

def upd (m : Str → Option Value) (x : Str) (v : Value) : Str → Option Value := fun y => if y = x then some v else m y
theorem upd_hit {m : Str → Option Value} {x : Str} {v : Value} : upd m x v x = some v := if_pos rfl
theorem upd_miss {m : Str → Option Value} {x y : Str} {v : Value} {r : Option Value} (h : y ≠ x) (e : m y = r) : upd m x v y = r := (if_neg h).trans e

section
variable {M : Model} {A : Around} {E : Value → Shared → Prop} {s : Shared} {env : Env}
theorem x_assign {x : Str} {pos' pos : Pos} {value : Expr} {rest : List Stmt} {Q : Flow → Shared → Prop}
    (h : wpAny M A (eval value env) (fun v s₁ => wpAny M A (storeName env x v) (fun _ s₂ => wpAny M A (execs rest env) Q E s₂) E s₁) E s)
    (hs : swapsWith value (some (.Name x pos')) pos.line env = pure false := by rfl) :
    wpAny M A (execs (.Assign [.Name x pos'] value pos :: rest) env) Q E s := wpAny_execs_cons (wpAny_Assign_Name h hs)
theorem x_assignA {o : Expr} {attr : Str} {pos' pos : Pos} {value : Expr} {rest : List Stmt} {Q : Flow → Shared → Prop}
    (h : wpAny M A (eval value env) (fun v s₁ => wpAny M A (eval o env) (fun ov s₂ => wpAny M A (setAttr ov attr v) (fun _ s₃ => wpAny M A (execs rest env) Q E s₃) E s₂) E s₁) E s)
    (hs : swapsWith value (some (.Attribute o attr pos')) pos.line env = pure false := by rfl) :
    wpAny M A (execs (.Assign [.Attribute o attr pos'] value pos :: rest) env) Q E s := wpAny_execs_cons (plainObj_wpAny_Assign_Attribute h hs)
theorem x_assignS {o i : Expr} {pos' pos : Pos} {value : Expr} {rest : List Stmt} {Q : Flow → Shared → Prop}
    (h : wpAny M A (eval value env) (fun v s₁ => wpAny M A (eval o env) (fun ov s₂ => wpAny M A (eval i env) (fun iv s₃ => wpAny M A (setItem ov iv v) (fun _ s₄ => wpAny M A (execs rest env) Q E s₄) E s₃) E s₂) E s₁) E s)
    (hs : swapsWith value (some (.Subscript o i pos')) pos.line env = pure false := by rfl) :
    wpAny M A (execs (.Assign [.Subscript o i pos'] value pos :: rest) env) Q E s := wpAny_execs_cons (wpAny_Assign_Subscript h hs)
theorem x_augN {x : Str} {pos' pos : Pos} {op : Operator} {value : Expr} {rest : List Stmt} {Q : Flow → Shared → Prop}
    (h : wpAny M A (loadName env x) (fun old s₁ => wpAny M A (eval value env) (fun v s₂ => wpAny M A (inplaceOp op old v)
      (fun r s₃ => wpAny M A (storeName env x r) (fun _ s₄ => wpAny M A (execs rest env) Q E s₄) E s₃) E s₂) E s₁) E s) :
    wpAny M A (execs (.AugAssign (.Name x pos') op value pos :: rest) env) Q E s := wpAny_execs_cons (wpAny_AugAssign_Name h)
theorem x_augA {o value : Expr} {attr : Str} {tpos pos : Pos} {op : Operator} {rest : List Stmt} {Q : Flow → Shared → Prop}
    (h : wpAny M A (eval o env) (fun ov s₁ => wpAny M A (getAttr ov attr true) (fun old s₂ =>
          wpAny M A (eval value env) (fun v s₃ => wpAny M A (inplaceOp op old v) (fun new s₄ =>
            wpAny M A (setAttr ov attr new) (fun _ s₅ => wpAny M A (execs rest env) Q E s₅) E s₄) E s₃) E s₂) E s₁) E s) :
    wpAny M A (execs (.AugAssign (.Attribute o attr tpos) op value pos :: rest) env) Q E s := wpAny_execs_cons (wpAny_AugAssign_AttributeAny h)
theorem x_expr {e : Expr} {pos : Pos} {rest : List Stmt} {prog : Program} {w : World} {Q : Flow → Shared → Prop}
    (h : wpAny (model prog w) A (eval e env) (fun _ s₁ => wpAny (model prog w) A (execs rest env) Q E s₁) E s)
    (hi : interactive env = false := by rfl) (hs : swapsWith e none pos.line env = pure false := by rfl) :
    wpAny (model prog w) A (execs (.Expr e pos :: rest) env) Q E s := wpAny_execs_cons (wpAny_Expr_any h hi hs)
theorem x_ret {e : Expr} {pos : Pos} {rest : List Stmt} {Q : Flow → Shared → Prop} (h : wpAny M A (eval e env) (fun v s₁ => Q (.ret v) s₁) E s) :
    wpAny M A (execs (.Return (some e) pos :: rest) env) Q E s := wpAny_execs_cons (wpAny_Return_some h)
theorem x_ret0 {pos : Pos} {rest : List Stmt} {Q : Flow → Shared → Prop} (h : Q (.ret .none) s) :
    wpAny M A (execs (.Return none pos :: rest) env) Q E s := wpAny_execs_cons (wpAny_Return_none h)
theorem x_break {pos : Pos} {rest : List Stmt} {Q : Flow → Shared → Prop} (h : Q .brk s) : wpAny M A (execs (.Break pos :: rest) env) Q E s := wpAny_execs_cons (wpAny_Break h)
theorem x_nil {Q : Flow → Shared → Prop} (h : Q .next s) : wpAny M A (execs [] env) Q E s := wpAny_execs_nil h

theorem x_app {a : Stmt} {l r : List Stmt} {Q : Flow → Shared → Prop} (h : wpAny M A (execs (a :: (l ++ r)) env) Q E s) : wpAny M A (execs ((a :: l) ++ r) env) Q E s := h
theorem x_app0 {r : List Stmt} {Q : Flow → Shared → Prop} (h : wpAny M A (execs r env) Q E s) : wpAny M A (execs ([] ++ r) env) Q E s := h
theorem wp_append {Γ : PySem.Ctx} {b r : List Stmt} {Q : Flow → Pos → Shared → Prop} {E : Value → Pos → Shared → Prop} :
    ∀ {p : Pos} {s : Shared}, Sem.wp M Γ (execs (b ++ r) env) Q E p s →
    Sem.wp M Γ (execs b env) (fun f p' s' => match f with | .next => Sem.wp M Γ (execs r env) Q E p' s' | f => Q f p' s') E p s := by
  induction b with
  | nil => intro p s h; exact h
  | cons x b ih =>
    intro p s h
    rw [List.cons_append, execs_cons, Sem.wp_bind'] at h
    rw [execs_cons, Sem.wp_bind']
    refine Sem.wp_mono _ Γ _ (fun f p' s' q => ?_) (fun _ _ _ q => q) _ _ h
    cases f with
    | next => exact ih q
    | _ => exact q
theorem x_if {test : Expr} {body orelse rest : List Stmt} {pos : Pos} {Q : Flow → Shared → Prop}
    (h : wpAny M A (isTrue test env (eval test env)) (fun b s₂ => (b = true → wpAny M A (execs (body ++ rest) env) Q E s₂) ∧ (b = false → wpAny M A (execs (orelse ++ rest) env) Q E s₂)) E s) :
    wpAny M A (execs (.If test body orelse pos :: rest) env) Q E s := fun Γ p hΓ => by
  rw [execs_cons, Sem.wp_bind']
  simp only [exec_If, Sem.wp_bind', Sem.wp_cmd_standAt]
  refine Sem.wp_mono M Γ _ (fun b p₂ s₂ h₂ => ?_) (fun _ _ _ h' => h') _ _ (h Γ _ hΓ)
  have fin : ∀ {l : List Stmt}, wpAny M A (execs (l ++ rest) env) Q E s₂ → Sem.wp M Γ (execs l env) (fun x pos' sh' => Sem.wp M Γ (match x with | Flow.next => execs rest env | f => pure f) (fun a _ s' => Q a s') (fun e _ s' => E e s') pos' sh') (fun e _ s' => E e s') p₂ s₂ := by
    intro l hl
    refine Sem.wp_mono M Γ _ (fun f p' s' q => ?_) (fun _ _ _ q => q) _ _ (wp_append (hl Γ p₂ hΓ))
    cases f <;> exact q
  cases b with
  | true => exact fin (h₂.1 rfl)
  | false => exact fin (h₂.2 rfl)

def Both (b : Bool) (P R : Prop) : Prop := (b = true → P) ∧ (b = false → R)
theorem both_tt {P R : Prop} (h : P) : (true = true → P) ∧ (true = false → R) := ⟨fun _ => h, fun e => (nomatch e)⟩
theorem both_ff {P R : Prop} (h : R) : (false = true → P) ∧ (false = false → R) := ⟨fun e => (nomatch e), fun _ => h⟩
theorem t_not {x : Expr} {pos : Pos} {whole : Sem Value} {Q : Bool → Shared → Prop} (h : wpAny M A (isTrue x env (eval x env)) (fun c s' => Q (!c) s') E s) :
    wpAny M A (isTrue (.UnaryOp .Not x pos) env whole) Q E s := isTrue_not h
theorem t_and {x : Expr} {rest : List Expr} {pos : Pos} {whole : Sem Value} {Q : Bool → Shared → Prop}
    (h : wpAny M A (isTrue x env (eval x env)) (fun c s' => (c = true → wpAny M A (isTrue (.BoolOp .And rest pos) env whole) Q E s') ∧ (c = false → Q false s')) E s) :
    wpAny M A (isTrue (.BoolOp .And (x :: rest) pos) env whole) Q E s :=
  isTrue_and (wpAny_mono h (fun c s' q => by cases c; exact q.2 rfl; exact q.1 rfl) fun _ _ q => q)
theorem t_or {x : Expr} {rest : List Expr} {pos : Pos} {whole : Sem Value} {Q : Bool → Shared → Prop}
    (h : wpAny M A (isTrue x env (eval x env)) (fun c s' => (c = true → Q true s') ∧ (c = false → wpAny M A (isTrue (.BoolOp .Or rest pos) env whole) Q E s')) E s) :
    wpAny M A (isTrue (.BoolOp .Or (x :: rest) pos) env whole) Q E s :=
  isTrue_or (wpAny_mono h (fun c s' q => by cases c; exact q.2 rfl; exact q.1 rfl) fun _ _ q => q)
theorem t_cmp {l r : Expr} {op : CmpOp} {pos : Pos} {whole : Sem Value} {Q : Bool → Shared → Prop}
    (h : wpAny M A (eval l env) (fun a s₁ => wpAny M A (eval r env) (fun b s₂ => wpAny M A (compareOp op a b) (fun c s₃ => ∃ k, c = .bool k ∧ Q k s₃) E s₂) E s₁) E s)
    (hm : behindInMarks op r = false := by with_unfolding_all rfl) : wpAny M A (isTrue (.Compare l [op] [r] pos) env whole) Q E s :=
  wpAny_isTrue_Compare1 (wpAny_mono h (fun a s₁ q => wpAny_mono q (fun b s₂ q => wpAny_mono q (fun c s₃ q => by obtain ⟨k, rfl, q⟩ := q; exact wpAny_truthy_bool q) fun _ _ q => q) fun _ _ q => q) fun _ _ q => q) hm
theorem t_cmp2 {l r₁ r₂ : Expr} {op₁ op₂ : CmpOp} {pos : Pos} {whole : Sem Value} {Q : Bool → Shared → Prop}
    (h : wpAny M A (eval l env) (fun a s₁ => wpAny M A (eval r₁ env) (fun b s₂ => wpAny M A (compareOp op₁ a b) (fun c s₃ => ∃ k, c = .bool k ∧
      (k = true → wpAny M A (eval r₂ env) (fun d s₄ => wpAny M A (compareOp op₂ b d) (fun c s₅ => ∃ k, c = .bool k ∧ Q k s₅) E s₄) E s₃) ∧ (k = false → Q false s₃)) E s₂) E s₁) E s)
    (hm : lastMarks [op₁, op₂] [r₁, r₂] = false := by with_unfolding_all rfl) : wpAny M A (isTrue (.Compare l [op₁, op₂] [r₁, r₂] pos) env whole) Q E s :=
  isTrue_chain (wpAny_mono h (fun a s₁ q => test_link (wpAny_mono q (fun b s₂ q => wpAny_mono q (fun c s₃ q => by
    obtain ⟨k, rfl, q⟩ := q
    refine wpAny_truthy_bool ?_
    cases k with
    | false => exact q.2 rfl
    | true => exact test_last (wpAny_mono (q.1 rfl) (fun d s₄ q => wpAny_mono q (fun c s₅ q => by obtain ⟨k, rfl, q⟩ := q; exact wpAny_truthy_bool q) fun _ _ q => q) fun _ _ q => q)) fun _ _ q => q) fun _ _ q => q)) fun _ _ q => q) hm
theorem t_call {f : Expr} {args : List Expr} {kws : List Keyword} {pos : Pos} {Q : Bool → Shared → Prop}
    (h : wpAny M A (eval (.Call f args kws pos) env) (fun v s₁ => ∃ k, v = .bool k ∧ Q k s₁) E s) : wpAny M A (isTrue (.Call f args kws pos) env (eval (.Call f args kws pos) env)) Q E s :=
  isTrue_plain (wpAny_mono h (fun v s₁ q => by obtain ⟨k, rfl, q⟩ := q; exact wpAny_truthy_bool q) fun _ _ q => q)
theorem t_name {x : Str} {pos : Pos} {Q : Bool → Shared → Prop}
    (h : wpAny M A (eval (.Name x pos) env) (fun v s₁ => ∃ k, v = .bool k ∧ Q k s₁) E s) : wpAny M A (isTrue (.Name x pos) env (eval (.Name x pos) env)) Q E s :=
  isTrue_plain (wpAny_mono h (fun v s₁ q => by obtain ⟨k, rfl, q⟩ := q; exact wpAny_truthy_bool q) fun _ _ q => q)
theorem t_const {b : Bool} {k : Nat} {pos : Pos} {whole : Sem Value} {Q : Bool → Shared → Prop}
    (h : Q b s) (hw : whole = eval (.Constant (.bool b) k pos) env := by rfl) : wpAny M A (isTrue (.Constant (.bool b) k pos) env whole) Q E s := by
  subst hw
  exact isTrue_plain (wpAny_Constant_bool (wpAny_truthy_bool h))
theorem v_and {e₁ e₂ : Expr} {rest : List Expr} {pos : Pos} {Q : Value → Shared → Prop}
    (h : wpAny M A (eval e₁ env) (fun v s₁ => ∃ k, v = .bool k ∧ (k = true → wpAny M A (eval (.BoolOp .And (e₂ :: rest) pos) env) Q E s₁) ∧ (k = false → Q (.bool false) s₁)) E s) :
    wpAny M A (eval (.BoolOp .And (e₁ :: e₂ :: rest) pos) env) Q E s :=
  BoolOp_and (wpAny_mono h (fun v s₁ q => by
    obtain ⟨k, rfl, q⟩ := q
    refine wpAny_truthy_bool ?_
    cases k with
    | false => exact q.2 rfl
    | true => exact q.1 rfl) fun _ _ q => q)
theorem v_or {e₁ e₂ : Expr} {rest : List Expr} {pos : Pos} {Q : Value → Shared → Prop}
    (h : wpAny M A (eval e₁ env) (fun v s₁ => ∃ k, v = .bool k ∧ (k = true → Q (.bool true) s₁) ∧ (k = false → wpAny M A (eval (.BoolOp .Or (e₂ :: rest) pos) env) Q E s₁)) E s) :
    wpAny M A (eval (.BoolOp .Or (e₁ :: e₂ :: rest) pos) env) Q E s :=
  BoolOp_or (wpAny_mono h (fun v s₁ q => by
    obtain ⟨k, rfl, q⟩ := q
    refine wpAny_truthy_bool ?_
    cases k with
    | false => exact q.2 rfl
    | true => exact q.1 rfl) fun _ _ q => q)
theorem v_one {op : BoolOp} {e : Expr} {pos : Pos} {Q : Value → Shared → Prop} (h : wpAny M A (eval e env) Q E s) : wpAny M A (eval (.BoolOp op [e] pos) env) Q E s := BoolOp_one h
theorem v_cmp {l r : Expr} {op : CmpOp} {pos : Pos} {Q : Value → Shared → Prop}
    (h : wpAny M A (eval l env) (fun a s₁ => wpAny M A (eval r env) (fun b s₂ => wpAny M A (compareOp op a b) Q E s₂) E s₁) E s)
    (hm : behindInMarks op r = false := by with_unfolding_all rfl) : wpAny M A (eval (.Compare l [op] [r] pos) env) Q E s := wpAny_Compare1 h hm
theorem v_cmp2 {l r₁ r₂ : Expr} {op₁ op₂ : CmpOp} {pos : Pos} {Q : Value → Shared → Prop}
    (h : wpAny M A (eval l env) (fun a s₁ => wpAny M A (eval r₁ env) (fun b s₂ => wpAny M A (compareOp op₁ a b) (fun c s₃ => ∃ k, c = .bool k ∧
      (k = true → wpAny M A (eval r₂ env) (fun d s₄ => wpAny M A (compareOp op₂ b d) Q E s₄) E s₃) ∧ (k = false → Q (.bool false) s₃)) E s₂) E s₁) E s)
    (hm : lastMarks [op₁, op₂] [r₁, r₂] = false := by with_unfolding_all rfl) : wpAny M A (eval (.Compare l [op₁, op₂] [r₁, r₂] pos) env) Q E s :=
  Compare_chain (wpAny_mono h (fun a s₁ q => chain_link (wpAny_mono q (fun b s₂ q => wpAny_mono q (fun c s₃ q => by
    obtain ⟨k, rfl, q⟩ := q
    refine wpAny_truthy_bool ?_
    cases k with
    | false => exact q.2 rfl
    | true => exact chain_last (q.1 rfl)) fun _ _ q => q) fun _ _ q => q)) fun _ _ q => q) hm
theorem v_ifexp {test body orelse : Expr} {pos : Pos} {Q : Value → Shared → Prop}
    (h : wpAny M A (isTrue test env (eval test env)) (fun c s₂ => (c = true → wpAny M A (eval body env) Q E s₂) ∧ (c = false → wpAny M A (eval orelse env) Q E s₂)) E s) :
    wpAny M A (eval (.IfExp test body orelse pos) env) Q E s :=
  IfExp_ (wpAny_mono h (fun c s' q => by cases c; exact q.2 rfl; exact q.1 rfl) fun _ _ q => q)
theorem v_call {x : Str} {p pos : Pos} {args : List Expr} {Q : Value → Shared → Prop}
    (h : wpAny M A (eval (.Name x p) env) (fun f s₁ => wpAny M A (callWith pos f [] (backTo pos (starEach args env)) []) Q E s₁) E s) :
    wpAny M A (eval (.Call (.Name x p) args [] pos) env) Q E s := wpAny_bind h
end

structure Lc (sc : Scope) (x : Str) : Prop where
  at_ : sc.names.lookup x = some .local
  no : (x == ("__debug__" : Str)) = false
structure Gb (sc : Scope) (x : Str) : Prop where
  at_ : sc.names.lookup x = some .globalImplicit
  no : (x == ("__debug__" : Str)) = false
section
variable {W : Wd} {base g h : Heap} {c : Cx} {sc : Scope} {n : Nat} {m : Str → Option Value} {news : Led} {s : Shared} {tk : Nat} {E : Value → Shared → Prop}
theorem z_local {x : Str} {pos : Pos} {v : Value} {Q : Value → Shared → Prop} (S : Wk W base c g sc n) (F : Fr g c.L h m) (k : Lc sc x) (hv : m x = some v) (hq : Q v (st s h tk)) :
    wpAny W.M c.A (eval (.Name x pos) c.env) Q E (st s h tk) :=
  nameX_L F hv hq (by rw [S.cs]; exact S.kind) (by show c.cs.names.lookup x = _; rw [S.cs]; exact k.at_) k.no
theorem z_load {x : Str} {v : Value} {Q : Value → Shared → Prop} (S : Wk W base c g sc n) (F : Fr g c.L h m) (k : Lc sc x) (hv : m x = some v) (hq : Q v (st s h tk)) :
    wpAny W.M c.A (loadName c.env x) Q E (st s h tk) :=
  wpAny_loadName_local (by show c.cs.kind = _; rw [S.cs]; exact S.kind) (by show c.cs.names.lookup x = _; rw [S.cs]; exact k.at_) F.ns hv hq
theorem z_global {x : Str} {pos : Pos} {v : Value} {Q : Value → Shared → Prop} (S : Wk W base c g sc n) (F : Fr g c.L h m) (k : Gb sc x) (hv : nsIn W.K mainGlobals x = some (some v)) (hq : Q v (st s h tk)) :
    wpAny W.M c.A (eval (.Name x pos) c.env) Q E (st s h tk) :=
  nameX_K F S.G.X (topRead_of S.G.T) hv hq (by rw [S.cs]; exact S.kind) (by show c.cs.names.lookup x = _; rw [S.cs]; exact k.at_) k.no
theorem z_builtin {x : Str} {pos : Pos} {v : Value} {Q : Value → Shared → Prop} (S : Wk W base c g sc n) (F : Fr g c.L h m) (k : Gb sc x) (hn : nsIn W.K mainGlobals x = some none) (hv : bootBuiltins x = some v) (hne : x ≠ "__name__") (hq : Q v (st s h tk)) :
    wpAny W.M c.A (eval (.Name x pos) c.env) Q E (st s h tk) :=
  nameX_B F S.G.X (topRead_of S.G.T) hn hv hne hq (by rw [S.cs]; exact S.kind) (by show c.cs.names.lookup x = _; rw [S.cs]; exact k.at_) k.no
theorem z_store {x : Str} {v : Value} {Q : Unit → Shared → Prop} (S : Wk W base c g sc n) (F : Fr g c.L h m) (N : News g c.L h news) (k : Lc sc x)
    (hq : ∀ h' tk', Fr g c.L h' (upd m x v) → News g c.L h' news → Q () (st s h' tk')) : wpAny W.M c.A (storeName c.env x v) Q E (st s h tk) :=
  storeX_L F N (fun h' F' N' => hq h' _ F' N') (by rw [S.cs]; exact S.kind) (by show c.cs.names.lookup x = _; rw [S.cs]; exact k.at_)
theorem z_int {i : Int} {k : Nat} {pos : Pos} {A : Around} {M : Model} {env : Env} {Q : Value → Shared → Prop} (hq : ∀ t tk', Q (.int i t) (st s h tk')) : wpAny M A (eval (.Constant (.int i) k pos) env) Q E (st s h tk) :=
  wpAny_Constant_int (hq _ _)
theorem z_str {x : Str} {k : Nat} {pos : Pos} {A : Around} {M : Model} {env : Env} {Q : Value → Shared → Prop} (hq : ∀ t tk', Q (.str x t) (st s h tk')) : wpAny M A (eval (.Constant (.str x) k pos) env) Q E (st s h tk) :=
  wpAny_Constant_str (hq _ _)
theorem z_bool {b : Bool} {k : Nat} {pos : Pos} {A : Around} {M : Model} {env : Env} {Q : Value → Shared → Prop} (hq : Q (.bool b) (st s h tk)) : wpAny M A (eval (.Constant (.bool b) k pos) env) Q E (st s h tk) :=
  wpAny_Constant_bool hq
theorem z_done {v : Value} {P : Value → Led → Prop} (F : Fr g c.L h m) (N : News g c.L h news) (hp : P v news) : Done c g s P (.ret v) (st s h tk) := ⟨h, tk, m, news, rfl, F, N, hp⟩
theorem z_end {P : Value → Led → Prop} (F : Fr g c.L h m) (N : News g c.L h news) (hp : P .none news) : Done c g s P .next (st s h tk) := ⟨h, tk, m, news, rfl, F, N, hp⟩
end
end Mine
end
section
open PySem PySem.W PySem.Calls PySem.Spec PyProof.Rows
set_option Elab.async false
set_option maxRecDepth 100000
namespace Mine

def setA (d : Addr) (o : Obj) (news : Led) : Led := (d, o) :: news.filter fun p => decide (p.1 ≠ d)
theorem setA_new {d : Addr} {o : Obj} {news : Led} : (d, o) ∈ setA d o news := .head _
theorem setA_old {d : Addr} {o : Obj} {news : Led} {p : Addr × Obj} (h : p ∈ news) (hn : p.1 ≠ d) : p ∈ setA d o news := .tail _ (List.mem_filter.mpr ⟨h, decide_eq_true hn⟩)
theorem news_front {g h : Heap} {L d : Addr} {o : Obj} {news : Led} (N : News g L h news) (hm : (d, o) ∈ news) : News g L h ((d, o) :: news.filter fun p => decide (p.1 ≠ d)) := by
  intro p hp
  rcases List.mem_cons.mp hp with rfl | hp
  · exact N _ hm
  · exact N p (List.mem_filter.mp hp).1
theorem upd_front {d : Addr} {o o' : Obj} {news : Led} : Upd d o o' ((d, o) :: news.filter fun p => decide (p.1 ≠ d)) (setA d o' news) :=
  .head fun p hp => of_decide_eq_true (List.mem_filter.mp hp).2
theorem news_ne {g h : Heap} {L a b : Addr} {o o' : Obj} {news : Led} (N : News g L h news) (ha : (a, o) ∈ news) (hb : (b, o') ∈ news) (hn : o ≠ o') : a ≠ b := by
  intro e
  subst e
  have h1 := N.get ha
  rw [N.get hb] at h1
  exact hn (Option.some.inj h1).symm
theorem news_eq {g h : Heap} {L a : Addr} {o o' : Obj} {news : Led} (N : News g L h news) (ha : (a, o) ∈ news) (hb : (a, o') ∈ news) : o = o' := by
  have h1 := N.get ha
  rw [N.get hb] at h1
  exact (Option.some.inj h1).symm
def Kp (S : List Addr) (news news' : Led) : Prop := ∀ p ∈ news, p.1 ∉ S → p ∈ news'
theorem Kp.refl {S : List Addr} {news : Led} : Kp S news news := fun _ h _ => h
theorem Kp.trans {S : List Addr} {a b c : Led} (h : Kp S a b) (k : Kp S b c) : Kp S a c := fun p hp hn => k p (h p hp hn) hn
theorem Kp.mono {S S' : List Addr} {a b : Led} (h : Kp S a b) (hs : ∀ x ∈ S, x ∈ S') : Kp S' a b := fun p hp hn => h p hp fun hm => hn (hs _ hm)
theorem Kp.set {S : List Addr} {d : Addr} {o : Obj} {news : Led} (h : d ∈ S) : Kp S news (setA d o news) := fun p hp hn => setA_old hp fun e => hn (e ▸ h)
theorem Kp.push {S : List Addr} {q : Addr × Obj} {news : Led} : Kp S news (q :: news) := fun _ hp _ => .tail _ hp

theorem isStr_str {x y : Str} {t : Tok} : (Value.str x t).isStr y = (x == y) := rfl
theorem getL_put {name : Str} {hsh : Int} {t : Tok} {v : Value} : ∀ {es : List DictEntry}, getL name (putL name hsh (.str name t) v es) = some (some v) := by
  intro es
  induction es with
  | nil => simp [putL, getL, isStr_str]
  | cons e r ih =>
    unfold putL
    split
    · rename_i q; simp [getL, q]
    · rename_i q
      unfold getL at ih ⊢
      rw [List.find?_cons, Bool.eq_false_iff.mpr q]
      dsimp only
      cases hf : List.find? (fun x => x.key.isStr name) (putL name hsh (.str name t) v r) with
      | some e' => rw [hf] at ih; exact ih
      | none => rw [hf] at ih; dsimp only at ih; split at ih <;> cases ih
theorem isStr_two {v : Value} {x y : Str} (h : v.isStr x = true) (hn : y ≠ x) : v.isStr y = false := by
  cases v <;> simp only [Value.isStr] at h ⊢
  rename_i s t
  have := beq_iff_eq.mp h
  subst this
  exact Bool.eq_false_iff.mpr fun e => hn (beq_iff_eq.mp e).symm
theorem isStr_key {v : Value} {x : Str} (h : v.isStr x = true) : ∃ t, v = .str x t := by
  cases v <;> simp only [Value.isStr] at h
  all_goals first | (cases h; done) | skip
  rename_i s t
  exact ⟨t, by rw [beq_iff_eq.mp h]⟩
theorem getL_put_ne {name name' : Str} {hsh : Int} {t : Tok} {v : Value} (hn : name ≠ name') : ∀ {es : List DictEntry}, getL name (putL name' hsh (.str name' t) v es) = getL name es := by
  have hb : (name' == name) = false := Bool.eq_false_iff.mpr fun e => hn (beq_iff_eq.mp e).symm
  have key : ∀ es : List DictEntry, List.find? (fun x => x.key.isStr name) (putL name' hsh (.str name' t) v es) = List.find? (fun x => x.key.isStr name) es ∧ (putL name' hsh (.str name' t) v es).any (·.refKey) = es.any (·.refKey) := by
    intro es
    induction es with
    | nil => simp [putL, isStr_str, hb, DictEntry.refKey]
    | cons e r ih =>
      unfold putL
      split
      · rename_i q
        have q' := isStr_two q hn
        simp only [List.find?_cons, q', List.any_cons]
        constructor <;> first | trivial | rfl
      · simp only [List.find?_cons, List.any_cons, ih.1, ih.2]
        constructor <;> first | trivial | rfl
  intro es
  unfold getL
  rw [(key es).1, (key es).2]
theorem putL_length {name : Str} {hsh : Int} {k v : Value} : ∀ {es : List DictEntry}, (putL name hsh k v es).length ≤ es.length + 1 := by
  intro es
  induction es with
  | nil => simp [putL]
  | cons e r ih =>
    unfold putL
    split
    · simp
    · simp only [List.length_cons]; lia
theorem putL_length_hit {name : Str} {hsh : Int} {k v u : Value} : ∀ {es : List DictEntry}, getL name es = some (some u) → (putL name hsh k v es).length = es.length := by
  intro es
  induction es with
  | nil => intro h; simp [getL] at h
  | cons e r ih =>
    intro h
    unfold putL
    split
    · simp
    · rename_i q
      simp only [List.length_cons]
      rw [ih]
      unfold getL at h ⊢
      rw [List.find?_cons, Bool.eq_false_iff.mpr q] at h
      dsimp only at h
      cases hf : List.find? (fun x => x.key.isStr name) r with
      | some e' => rw [hf] at h; exact h
      | none => rw [hf] at h; dsimp only at h; split at h <;> cases h

structure ClsF (K : Frag) (C : Addr) (flds : List Str) : Prop where
  ga : findIn K (.ref C) "__getattribute__" = some (some (.builtin "object.__getattribute__"))
  gt : findIn K (.ref C) "__getattr__" = some none
  hd : hasDictIn K C = true
  sa : findIn K (.ref C) "__setattr__" = some (some (.builtin "object.__setattr__"))
  po : plainOver K C = true
  fld : ∀ x ∈ flds, findIn K (.ref C) x = some none
  tk : ∀ x ∈ flds, takerIn K C x = some none
theorem ClsF.pg {K : Frag} {C : Addr} {flds : List Str} {name : Str} (h : ClsF K C flds) : plainGet K C name = true := by
  unfold plainGet; rw [h.ga, h.gt]; decide
structure MetF (K : Frag) (C : Addr) (name : Str) (f : Addr) : Prop where
  find : findIn K (.ref C) name = some (some (.ref f))
  fn : isFn K (.ref f) = true
  keep : keepIn K (.ref f) = true

section
variable {W : Wd} {base g h : Heap} {c : Cx} {sc : Scope} {n : Nat} {m : Str → Option Value} {news : Led} {s : Shared} {tk : Nat} {E : Value → Shared → Prop}
theorem z_get {a d C : Addr} {es : List DictEntry} {k : Nat} {flds : List Str} {attr : Str} {v : Value} {expr : Bool} {Q : Value → Shared → Prop} (S : Wk W base c g sc n) (F : Fr g c.L h m) (N : News g c.L h news)
    (hC : ClsF W.K C flds) (h1 : (a, instObj C d) ∈ news) (h2 : (d, dictOf es k) ∈ news) (hf : attr ∈ flds) (hl : getL attr es = some (some v)) (hv : handedIn v = true)
    (hq : ∀ tk', Q v (st s h tk')) : wpAny W.M c.A (getAttr (.ref a) attr expr) Q E (st s h tk) :=
  get_own F S.G.X (InstAt.of_news N h1 h2) hC.pg hC.hd (hC.fld _ hf) rfl hl hv (hq _)
theorem z_attr {x : Str} {xp pos : Pos} {a d C : Addr} {es : List DictEntry} {k : Nat} {flds : List Str} {attr : Str} {v : Value} {Q : Value → Shared → Prop} (S : Wk W base c g sc n) (F : Fr g c.L h m) (N : News g c.L h news)
    (kx : Lc sc x) (hm : m x = some (.ref a)) (hC : ClsF W.K C flds) (h1 : (a, instObj C d) ∈ news) (h2 : (d, dictOf es k) ∈ news) (hf : attr ∈ flds) (hl : getL attr es = some (some v)) (hv : handedIn v = true)
    (hq : ∀ tk', Q v (st s h tk')) : wpAny W.M c.A (eval (.Attribute (.Name x xp) attr pos) c.env) Q E (st s h tk) :=
  Attribute_Name_ (z_local S F kx hm (z_get S F N hC h1 h2 hf hl hv hq))
theorem z_set {a d C : Addr} {es : List DictEntry} {k : Nat} {flds : List Str} {attr : Str} {v : Value} {Q : Unit → Shared → Prop} (S : Wk W base c g sc n) (F : Fr g c.L h m) (N : News g c.L h news)
    (hC : ClsF W.K C flds) (h1 : (a, instObj C d) ∈ news) (h2 : (d, dictOf es k) ∈ news) (hf : attr ∈ flds) (hl : (getL attr es).isSome = true) (hz : es.length ≤ 100)
    (hq : ∀ h' tk' hsh t, Fr g c.L h' m → News g c.L h' (setA d (dictOf (putL attr hsh (.str attr t) v es) (putN attr es k)) news) → Q () (st s h' tk')) :
    wpAny W.M c.A (setAttr (.ref a) attr v) Q E (st s h tk) := by
  have hne : a ≠ d := news_ne N h1 h2 (fun e => by cases congrArg Obj.data e)
  refine set_dict F S.G.X (news_front N h2) (I := InstAt.of_news N h1 h2) rfl hC.sa hC.po (hC.tk _ hf) hC.hd hl rfl upd_front ?_ fun h' F' N' => hq h' _ _ _ F' N'
  have := putL_length (name := attr) (hsh := PyData.keyHash W.w.params attr) (k := .str attr ((st s h tk).toks + 1)) (v := v) (es := es)
  lia

theorem z_call {f : Addr} {pos : Pos} {e : Expr} {rest : List Expr} {Q : Value → Shared → Prop} (S : Wk W base c g sc n) (hk : keepIn W.K (.ref f) = true)
    (hh : wpAny W.M c.A (spliced (backTo pos (starEach (e :: rest) c.env))) (fun vs s₁ => (∃ m' , Fr g c.L s₁.heap m') ∧ wpAny W.M c.A (call (.ref f) vs) Q E s₁) E (st s h tk))
    (he : starEach (e :: rest) c.env = (false, eval e c.env) :: starEach rest c.env := by rfl) (hp : (backTo pos (starEach rest c.env)).any (·.1) = false := by rfl) :
    wpAny W.M c.A (callWith pos (.ref f) [] (backTo pos (starEach (e :: rest) c.env)) []) Q E (st s h tk) :=
  callWith_K S.G.X hk (wpAny_mono hh (fun vs s₁ q => ⟨by obtain ⟨m', F⟩ := q.1; exact S.G.X.keeps F.keep, q.2⟩) fun _ _ q => q) he hp
theorem z_call0 {f : Addr} {pos : Pos} {Q : Value → Shared → Prop} (S : Wk W base c g sc n) (F : Fr g c.L h m) (hk : keepIn W.K (.ref f) = true)
    (hh : wpAny W.M c.A (call (.ref f) []) Q E (st s h tk)) : wpAny W.M c.A (callWith pos (.ref f) [] (backTo pos (starEach [] c.env)) []) Q E (st s h tk) :=
  callWith_K0 (S.G.X.keeps F.keep) hk hh
theorem z_mcall {f : Addr} {self : Value} {pos : Pos} {e : Expr} {rest : List Expr} {Q : Value → Shared → Prop} (S : Wk W base c g sc n) (hk : keepIn W.K (.ref f) = true)
    (hh : wpAny W.M c.A (spliced (backTo pos (starEach (e :: rest) c.env))) (fun vs s₁ => (∃ m' , Fr g c.L s₁.heap m') ∧ wpAny W.M c.A (call (.ref f) (self :: vs)) Q E s₁) E (st s h tk))
    (he : starEach (e :: rest) c.env = (false, eval e c.env) :: starEach rest c.env := by rfl) (hp : (backTo pos (starEach rest c.env)).any (·.1) = false := by rfl) :
    wpAny W.M c.A (callWith pos (.ref f) [self] (backTo pos (starEach (e :: rest) c.env)) []) Q E (st s h tk) :=
  callWith_K S.G.X hk (wpAny_mono hh (fun vs s₁ q => ⟨by obtain ⟨m', F⟩ := q.1; exact S.G.X.keeps F.keep, q.2⟩) fun _ _ q => q) he hp
theorem z_mcall0 {f : Addr} {self : Value} {pos : Pos} {Q : Value → Shared → Prop} (S : Wk W base c g sc n) (F : Fr g c.L h m) (hk : keepIn W.K (.ref f) = true)
    (hh : wpAny W.M c.A (call (.ref f) [self]) Q E (st s h tk)) : wpAny W.M c.A (callWith pos (.ref f) [self] (backTo pos (starEach [] c.env)) []) Q E (st s h tk) :=
  callWith_K0 (S.G.X.keeps F.keep) hk hh
theorem z_use {f : Addr} {vs : List Value} {k : Nat} {P : Value → Led → Prop} {Q : Value → Shared → Prop} (S : Wk W base c g sc n) (F : Fr g c.L h m) (N : News g c.L h news) (hc : Ct W f vs k news P) (hk : k ≤ n)
    (hq : ∀ r news' h' tk', Fr g c.L h' m → News g c.L h' news' → P r news' → Q r (st s h' tk')) : wpAny W.M c.A (call (.ref f) vs) Q E (st s h tk) :=
  hc c base g m s h tk Q E S.G F N (by rw [S.cs]; exact S.kind) ⟨by have := S.room.dp; lia, by have := S.room.un; lia⟩ hq
theorem z_meth {a d C f : Addr} {es : List DictEntry} {k : Nat} {flds : List Str} {name : Str} {pl : Sem Bool} {Q : Value × List Value → Shared → Prop} (S : Wk W base c g sc n) (F : Fr g c.L h m) (N : News g c.L h news)
    (hC : ClsF W.K C flds) (hM : MetF W.K C name f) (h1 : (a, instObj C d) ∈ news) (h2 : (d, dictOf es k) ∈ news) (hl : getL name es = some none)
    (hq : Q (.ref f, [.ref a]) (st s h tk)) : wpAny W.M c.A (getMethod (.ref a) name pl) Q E (st s h tk) :=
  method_inst F S.G.X (InstAt.of_news N h1 h2) hC.pg hM.find hM.fn hl hq
theorem z_args0 {pos : Pos} {A : Around} {M : Model} {env : Env} {Q : List Value → Shared → Prop} (hq : Q [] (st s h tk)) : wpAny M A (spliced (backTo pos (starEach [] env))) Q E (st s h tk) := args_nil hq
theorem z_args {e : Expr} {rest : List Expr} {pos : Pos} {A : Around} {M : Model} {env : Env} {Q : List Value → Shared → Prop}
    (hq : wpAny M A (eval e env) (fun v s₁ => wpAny M A (spliced (backTo pos (starEach rest env))) (fun vs s₂ => Q (v :: vs) s₂) E s₁) E (st s h tk))
    (he : starEach (e :: rest) env = (false, eval e env) :: starEach rest env := by rfl) : wpAny M A (spliced (backTo pos (starEach (e :: rest) env))) Q E (st s h tk) := args_cons hq he
end
end Mine
end
section
open PySem PySem.W PySem.Calls PySem.Spec PyProof.Rows
set_option Elab.async false
set_option maxRecDepth 100000
namespace Mine

abbrev strS (cs : Cs) : Str := ⟨cs.toArray⟩
def ch (o : Option Nat) : Str := strS o.toList
theorem ch_list (o : Option Nat) : (ch o).cps.toList = o.toList := by simp [ch, strS]
theorem strS_list (cs : Cs) : (strS cs).cps.toList = cs := by simp [strS]
theorem strS_len (cs : Cs) : (strS cs).length = cs.length := by show (cs.toArray).size = _; simp
theorem strS_app (a b : Cs) : strS a ++ strS b = strS (a ++ b) := by
  have : (strS a ++ strS b).cps = (strS (a ++ b)).cps := by rw [PySem.Str.cps_append]; simp [strS]
  exact congrArg PySem.Str.mk this
theorem strS_inj {a b : Cs} (h : strS a = strS b) : a = b := by
  have := congrArg (fun x : Str => x.cps.toList) h
  simpa [strS] using this
theorem strS_self (x : Str) : x = strS x.cps.toList := by cases x; simp [strS]

section
variable {W : Wd} {A : Around} {E : Value → Shared → Prop} {s : Shared} {h : Heap} {tk : Nat} {t u : Tok} {Q : Value → Shared → Prop}
theorem z_eqS {a b : Cs} (hq : Q (.bool (decide (a = b))) (st s h tk)) : wpAny W.M A (compareOp .Eq (.str (strS a) t) (.str (strS b) u)) Q E (st s h tk) :=
  P.eq_str (by
    have : ((strS a).cps.toList == (strS b).cps.toList) = decide (a = b) := by rw [strS_list, strS_list]; by_cases e : a = b <;> simp [e]
    rw [this]; exact hq)
theorem beq_dec (a b : Nat) : (a == b) = decide (a = b) := by by_cases e : a = b <;> simp [e]
theorem not_lt_dec (a b : Nat) : (!decide (a < b)) = decide (b ≤ a) := by
  by_cases e : a < b
  · rw [decide_eq_true e, decide_eq_false (by lia)]; rfl
  · rw [decide_eq_false e, decide_eq_true (by lia)]; rfl
theorem dec_lt_not (a b : Nat) : decide (a < b) = !decide (b ≤ a) := by rw [← not_lt_dec, Bool.not_not]
theorem one_lt (a b : Nat) : decide (([a] : List Nat) < [b]) = decide (a < b) := by
  rw [decide_eq_decide, List.cons_lt_cons_iff]
  constructor
  · rintro (q | ⟨_, q⟩)
    · exact q
    · exact absurd q (List.not_lt_nil _)
  · exact .inl
theorem z_eqc {o : Option Nat} {k : Nat} {y : Str} (hy : y = strS [k]) (hq : Q (.bool (decide (o = some k))) (st s h tk)) : wpAny W.M A (compareOp .Eq (.str (ch o) t) (.str y u)) Q E (st s h tk) :=
  P.eq_str (by
    have : ((ch o).cps.toList == y.cps.toList) = decide (o = some k) := by rw [hy, ch_list, strS_list]; cases o <;> simp [beq_dec]
    rw [this]; exact hq)
theorem z_nec {o : Option Nat} {k : Nat} {y : Str} (hy : y = strS [k]) (hq : Q (.bool (!decide (o = some k))) (st s h tk)) : wpAny W.M A (compareOp .NotEq (.str (ch o) t) (.str y u)) Q E (st s h tk) :=
  P.ne_str (by
    have : ((ch o).cps.toList != y.cps.toList) = !decide (o = some k) := by rw [hy, ch_list, strS_list]; cases o <;> simp [bne, beq_dec]
    rw [this]; exact hq)
theorem z_eq0 {o : Option Nat} {y : Str} (hy : y = strS []) (hq : Q (.bool (decide (o = none))) (st s h tk)) : wpAny W.M A (compareOp .Eq (.str (ch o) t) (.str y u)) Q E (st s h tk) :=
  P.eq_str (by
    have : ((ch o).cps.toList == y.cps.toList) = decide (o = none) := by rw [hy, ch_list, strS_list]; cases o <;> simp
    rw [this]; exact hq)
theorem z_ne0 {o : Option Nat} {y : Str} (hy : y = strS []) (hq : Q (.bool (!decide (o = none))) (st s h tk)) : wpAny W.M A (compareOp .NotEq (.str (ch o) t) (.str y u)) Q E (st s h tk) :=
  P.ne_str (by
    have : ((ch o).cps.toList != y.cps.toList) = !decide (o = none) := by rw [hy, ch_list, strS_list]; cases o <;> simp [bne]
    rw [this]; exact hq)
def geO (k : Nat) (o : Option Nat) : Bool := o.any fun c => decide (k ≤ c)
def leO (k : Nat) (o : Option Nat) : Bool := o.all fun c => decide (c ≤ k)
def gtO (k : Nat) (o : Option Nat) : Bool := o.any fun c => decide (k < c)
theorem z_lec {o : Option Nat} {k : Nat} {y : Str} (hy : y = strS [k]) (hq : Q (.bool (geO k o)) (st s h tk)) : wpAny W.M A (compareOp .LtE (.str y u) (.str (ch o) t)) Q E (st s h tk) :=
  P.le_str (by
    have : (!decide ((ch o).cps.toList < y.cps.toList)) = geO k o := by
      rw [hy, ch_list, strS_list]
      cases o with
      | none => rfl
      | some c => show (!decide ([c] < [k])) = decide (k ≤ c); rw [one_lt, not_lt_dec]
    rw [this]; exact hq)
theorem z_cle {o : Option Nat} {k : Nat} {y : Str} (hy : y = strS [k]) (hq : Q (.bool (leO k o)) (st s h tk)) : wpAny W.M A (compareOp .LtE (.str (ch o) t) (.str y u)) Q E (st s h tk) :=
  P.le_str (by
    have : (!decide (y.cps.toList < (ch o).cps.toList)) = leO k o := by
      rw [hy, ch_list, strS_list]
      cases o with
      | none => rfl
      | some c => show (!decide ([k] < [c])) = decide (c ≤ k); rw [one_lt, not_lt_dec]
    rw [this]; exact hq)
theorem z_ltc {o : Option Nat} {k : Nat} {y : Str} (hy : y = strS [k]) (hq : Q (.bool (gtO k o)) (st s h tk)) : wpAny W.M A (compareOp .Lt (.str y u) (.str (ch o) t)) Q E (st s h tk) :=
  P.lt_str (by
    have : (decide (y.cps.toList < (ch o).cps.toList)) = gtO k o := by
      rw [hy, ch_list, strS_list]
      cases o with
      | none => rfl
      | some c => show (decide ([k] < [c])) = decide (k < c); rw [one_lt]
    rw [this]; exact hq)
theorem z_cltS {c k : Nat} {y : Str} (hy : y = strS [k]) {l : Cs} (hl : l.headD 0 = c) (hn : l ≠ []) (hck : c ≠ k) (hq : Q (.bool (decide (c < k))) (st s h tk)) : wpAny W.M A (compareOp .Lt (.str (strS l) t) (.str y u)) Q E (st s h tk) :=
  P.lt_str (by
    have : (decide ((strS l).cps.toList < y.cps.toList)) = decide (c < k) := by
      rw [hy, strS_list, strS_list]
      cases l with
      | nil => exact absurd rfl hn
      | cons a r =>
        have : a = c := hl
        subst this
        rw [decide_eq_decide, List.cons_lt_cons_iff]
        constructor
        · rintro (q | ⟨q, _⟩)
          · exact q
          · exact absurd q hck
        · exact .inl
    rw [this]; exact hq)
theorem isalpha_ch (o : Option Nat) : Txt.isalpha (ch o) = o.any Unicode.isAlpha := by
  cases o with
  | none => rfl
  | some c =>
    show (decide (1 > 0) && Array.all #[c] Unicode.isAlpha) = Unicode.isAlpha c
    simp
theorem z_isalpha {o : Option Nat} (hq : Q (.bool (o.any Unicode.isAlpha)) (st s h tk)) : wpAny W.M A (call (.builtin "str.isalpha") [.str (ch o) t]) Q E (st s h tk) :=
  SC.isalpha (by rw [isalpha_ch]; exact hq)
theorem z_ord {c : Nat} (hq : ∀ t tk', Q (.int c t) (st s h tk')) : wpAny W.M A (call (.builtin "ord") [.str (strS [c]) t]) Q E (st s h tk) := P.ord_of_char (hq _ _)
theorem z_len {cs : Cs} (hc : cs.length ≤ 100000) (hq : ∀ t tk', Q (.int (cs.length : Nat) t) (st s h tk')) : wpAny W.M A (call (.builtin "len") [.str (strS cs) t]) Q E (st s h tk) :=
  P.len_str (by rw [strS_len]; lia) (by rw [strS_len]; exact hq _ _)

variable {a b : Int}
theorem z_add (hq : ∀ t tk', Q (.int (a + b) t) (st s h tk')) : wpAny W.M A (binaryOp .Add (.int a t) (.int b u)) Q E (st s h tk) := wpAny_add_int (hq _ _)
theorem z_iadd (hq : ∀ t tk', Q (.int (a + b) t) (st s h tk')) : wpAny W.M A (inplaceOp .Add (.int a t) (.int b u)) Q E (st s h tk) := wpAny_iadd_int (hq _ _)
theorem z_lt (hq : Q (.bool (decide (a < b))) (st s h tk)) : wpAny W.M A (compareOp .Lt (.int a t) (.int b u)) Q E (st s h tk) := wpAny_lt_int hq
theorem z_eq (hq : Q (.bool (decide (a = b))) (st s h tk)) : wpAny W.M A (compareOp .Eq (.int a t) (.int b u)) Q E (st s h tk) := wpAny_eq_int (by
  have : (a == b) = decide (a = b) := by by_cases e : a = b <;> simp [e]
  rw [this]; exact hq)
end
end Mine
end
section
open PySem PySem.W PySem.Calls PySem.Spec PyProof.Rows
set_option Elab.async false
set_option maxRecDepth 100000
namespace Mine
def nth : List Stmt → Nat → Stmt
  | [], _ => .Pass ⟨0, 0, 0, 0⟩
  | s :: _, 0 => s
  | _ :: r, n + 1 => nth r n
def dBody : Stmt → List Stmt
  | .FunctionDef _ _ b _ _ _ _ _ _ _ => b
  | .ClassDef _ _ _ b _ _ _ _ _ _ _ => b
  | _ => []
def dArgs : Stmt → Arguments
  | .FunctionDef _ a _ _ _ _ _ _ _ _ => a
  | _ => ⟨[], [], none, [], [], none, []⟩
def dScope : Stmt → Scope
  | .FunctionDef _ _ _ _ _ _ s _ _ _ => s
  | .ClassDef _ _ _ _ _ _ s _ _ _ _ => s
  | _ => ⟨.function, [], false, false, []⟩
def defAt (i : Nat) : Stmt := nth PySem.Challenge.pw_xm0311_01.main.body i
def metAt (i j : Nat) : Stmt := nth (dBody (defAt i)) j
def DefF (W : Wd) (f : Addr) (q : Str) (d : Stmt) : Prop := FnF W.K f q (dArgs d) (dBody d) (dScope d) ∧ keepIn W.K (.ref f) = true
theorem DefF.fn {W : Wd} {f : Addr} {q : Str} {d : Stmt} (h : DefF W f q d) : FnF W.K f q (dArgs d) (dBody d) (dScope d) := h.1
theorem DefF.keep {W : Wd} {f : Addr} {q : Str} {d : Stmt} (h : DefF W f q d) : keepIn W.K (.ref f) = true := h.2
end Mine
end
section
open PySem PySem.W PySem.Calls PySem.Spec PyProof.Rows
set_option Elab.async false
set_option maxRecDepth 100000
namespace Mine
def signsL : List Cs := ["<<=", "++", "--", "&&", "||", "==", "!=", "<=", ">=", "+=", "-=", "*=", "/=", "%=", "&=", "|=", "^=", "<<", "??", "?.", "=>", "{", "}", "[", "]", "(", ")", ".", ",", ":", ";", "+", "-", "*", "/", "%", "&", "|", "^", "!", "~", "=", "<", ">", "?"].map toCs
def lineEndsL : List Cs := [[10], [13], [133], [8232], [8233]]
def blanksL : List Cs := blanks.map fun c => [c]
def realEndsL : List Cs := ["f", "F", "d", "D", "m", "M"].map toCs
def keyCs (e : DictEntry) : Option Cs := match e.key with
  | .str x _ => some x.cps.toList
  | _ => none
def DicF (W : Wd) (a : Addr) (keys : List Cs) : Prop :=
  ∃ es n, W.K.lookup a = some ⟨.type "dict", none, .dict es n, #[]⟩ ∧ KeysLit W.w.params es.toList ∧ es.toList.map keyCs = keys.map some ∧ (a == sysModules) = false
def TupF (W : Wd) (a : Addr) (ns : Cs) : Prop :=
  ∃ l n, W.K.lookup a = some ⟨.type "tuple", none, .seq l.toArray n, #[]⟩ ∧ IntsAre l (ns.map fun (c : Nat) => (c : Int))
structure Ad where
  lex : Addr
  lex_one : Addr
  is_name_start : Addr
  is_name_part : Addr
  is_line_end : Addr
  digit_of : Addr
  skip_blanks : Addr
  skip_line : Addr
  skip_block : Addr
  take_name : Addr
  lex_name : Addr
  lex_at : Addr
  read_sign : Addr
  lex_int : Addr
  read_digits : Addr
  refuse_real : Addr
  read_int_word : Addr
  units_of : Addr
  read_text : Addr
  read_verbatim : Addr
  read_char : Addr
  lawWords : Addr
  lawEnd : Addr
  lawName : Addr
  lawNumber : Addr
  lawStrange : Addr
  lawUnits : Addr
  lawRun : Addr
  lawStuff : Addr
  lawPiece : Addr
  linit : Addr
  here : Addr
  peek : Addr
  put : Addr
  fault : Addr
  dinit : Addr
  dput : Addr
  cLex : Addr
  cDiags : Addr
  tWORDS : Addr
  tNEAR_WORDS : Addr
  tSIGNS : Addr
  tLINE_ENDS : Addr
  tBLANKS : Addr
  tREAL_ENDS : Addr
  tlawLetters : Addr
  tlawSigns : Addr
  tlawFar : Addr
structure Kf (W : Wd) (a : Ad) : Prop where
  kLex : ClsF W.K a.cLex ["text", "at", "diags", "tokens"]
  kDiags : ClsF W.K a.cDiags ["rows"]
  mkLex : makesIn W.K a.cLex = true ∧ keepIn W.K (.ref a.cLex) = true
  mkDiags : makesIn W.K a.cDiags = true ∧ keepIn W.K (.ref a.cDiags) = true
  d_lex : DefF W a.lex "lex" (defAt 22)
  g_lex : nsIn W.K mainGlobals "lex" = some (some (.ref a.lex))
  d_lex_one : DefF W a.lex_one "lex_one" (defAt 23)
  g_lex_one : nsIn W.K mainGlobals "lex_one" = some (some (.ref a.lex_one))
  d_is_name_start : DefF W a.is_name_start "is_name_start" (defAt 24)
  g_is_name_start : nsIn W.K mainGlobals "is_name_start" = some (some (.ref a.is_name_start))
  d_is_name_part : DefF W a.is_name_part "is_name_part" (defAt 25)
  g_is_name_part : nsIn W.K mainGlobals "is_name_part" = some (some (.ref a.is_name_part))
  d_is_line_end : DefF W a.is_line_end "is_line_end" (defAt 26)
  g_is_line_end : nsIn W.K mainGlobals "is_line_end" = some (some (.ref a.is_line_end))
  d_digit_of : DefF W a.digit_of "digit_of" (defAt 27)
  g_digit_of : nsIn W.K mainGlobals "digit_of" = some (some (.ref a.digit_of))
  d_skip_blanks : DefF W a.skip_blanks "skip_blanks" (defAt 28)
  g_skip_blanks : nsIn W.K mainGlobals "skip_blanks" = some (some (.ref a.skip_blanks))
  d_skip_line : DefF W a.skip_line "skip_line" (defAt 29)
  g_skip_line : nsIn W.K mainGlobals "skip_line" = some (some (.ref a.skip_line))
  d_skip_block : DefF W a.skip_block "skip_block" (defAt 30)
  g_skip_block : nsIn W.K mainGlobals "skip_block" = some (some (.ref a.skip_block))
  d_take_name : DefF W a.take_name "take_name" (defAt 31)
  g_take_name : nsIn W.K mainGlobals "take_name" = some (some (.ref a.take_name))
  d_lex_name : DefF W a.lex_name "lex_name" (defAt 32)
  g_lex_name : nsIn W.K mainGlobals "lex_name" = some (some (.ref a.lex_name))
  d_lex_at : DefF W a.lex_at "lex_at" (defAt 33)
  g_lex_at : nsIn W.K mainGlobals "lex_at" = some (some (.ref a.lex_at))
  d_read_sign : DefF W a.read_sign "read_sign" (defAt 34)
  g_read_sign : nsIn W.K mainGlobals "read_sign" = some (some (.ref a.read_sign))
  d_lex_int : DefF W a.lex_int "lex_int" (defAt 35)
  g_lex_int : nsIn W.K mainGlobals "lex_int" = some (some (.ref a.lex_int))
  d_read_digits : DefF W a.read_digits "read_digits" (defAt 36)
  g_read_digits : nsIn W.K mainGlobals "read_digits" = some (some (.ref a.read_digits))
  d_refuse_real : DefF W a.refuse_real "refuse_real" (defAt 37)
  g_refuse_real : nsIn W.K mainGlobals "refuse_real" = some (some (.ref a.refuse_real))
  d_read_int_word : DefF W a.read_int_word "read_int_word" (defAt 38)
  g_read_int_word : nsIn W.K mainGlobals "read_int_word" = some (some (.ref a.read_int_word))
  d_units_of : DefF W a.units_of "units_of" (defAt 41)
  g_units_of : nsIn W.K mainGlobals "units_of" = some (some (.ref a.units_of))
  d_read_text : DefF W a.read_text "read_text" (defAt 42)
  g_read_text : nsIn W.K mainGlobals "read_text" = some (some (.ref a.read_text))
  d_read_verbatim : DefF W a.read_verbatim "read_verbatim" (defAt 43)
  g_read_verbatim : nsIn W.K mainGlobals "read_verbatim" = some (some (.ref a.read_verbatim))
  d_read_char : DefF W a.read_char "read_char" (defAt 44)
  g_read_char : nsIn W.K mainGlobals "read_char" = some (some (.ref a.read_char))
  d_lawWords : DefF W a.lawWords "_law_words" (defAt 52)
  g_lawWords : nsIn W.K mainGlobals "_law_words" = some (some (.ref a.lawWords))
  d_lawEnd : DefF W a.lawEnd "_law_end" (defAt 53)
  g_lawEnd : nsIn W.K mainGlobals "_law_end" = some (some (.ref a.lawEnd))
  d_lawName : DefF W a.lawName "_law_name" (defAt 54)
  g_lawName : nsIn W.K mainGlobals "_law_name" = some (some (.ref a.lawName))
  d_lawNumber : DefF W a.lawNumber "_law_number" (defAt 55)
  g_lawNumber : nsIn W.K mainGlobals "_law_number" = some (some (.ref a.lawNumber))
  d_lawStrange : DefF W a.lawStrange "_law_strange" (defAt 56)
  g_lawStrange : nsIn W.K mainGlobals "_law_strange" = some (some (.ref a.lawStrange))
  d_lawUnits : DefF W a.lawUnits "_law_units" (defAt 57)
  g_lawUnits : nsIn W.K mainGlobals "_law_units" = some (some (.ref a.lawUnits))
  d_lawRun : DefF W a.lawRun "_law_run" (defAt 58)
  g_lawRun : nsIn W.K mainGlobals "_law_run" = some (some (.ref a.lawRun))
  d_lawStuff : DefF W a.lawStuff "_law_stuff" (defAt 59)
  g_lawStuff : nsIn W.K mainGlobals "_law_stuff" = some (some (.ref a.lawStuff))
  d_lawPiece : DefF W a.lawPiece "_law_piece" (defAt 60)
  g_lawPiece : nsIn W.K mainGlobals "_law_piece" = some (some (.ref a.lawPiece))
  d_linit : DefF W a.linit "Lex.__init__" (metAt 21 0)
  m_linit : MetF W.K a.cLex "__init__" a.linit
  d_here : DefF W a.here "Lex.here" (metAt 21 1)
  m_here : MetF W.K a.cLex "here" a.here
  d_peek : DefF W a.peek "Lex.peek" (metAt 21 2)
  m_peek : MetF W.K a.cLex "peek" a.peek
  d_put : DefF W a.put "Lex.put" (metAt 21 3)
  m_put : MetF W.K a.cLex "put" a.put
  d_fault : DefF W a.fault "Lex.fault" (metAt 21 4)
  m_fault : MetF W.K a.cLex "fault" a.fault
  d_dinit : DefF W a.dinit "Diags.__init__" (metAt 47 0)
  m_dinit : MetF W.K a.cDiags "__init__" a.dinit
  d_dput : DefF W a.dput "Diags.put" (metAt 47 1)
  m_dput : MetF W.K a.cDiags "put" a.dput
  i_TK_END : ∃ t, nsIn W.K mainGlobals "TK_END" = some (some (.int 0 t))
  i_TK_NAME : ∃ t, nsIn W.K mainGlobals "TK_NAME" = some (some (.int 1 t))
  i_TK_WORD : ∃ t, nsIn W.K mainGlobals "TK_WORD" = some (some (.int 2 t))
  i_TK_INT : ∃ t, nsIn W.K mainGlobals "TK_INT" = some (some (.int 3 t))
  i_TK_TEXT : ∃ t, nsIn W.K mainGlobals "TK_TEXT" = some (some (.int 4 t))
  i_TK_CHAR : ∃ t, nsIn W.K mainGlobals "TK_CHAR" = some (some (.int 5 t))
  i_TK_SIGN : ∃ t, nsIn W.K mainGlobals "TK_SIGN" = some (some (.int 6 t))
  i_LONGEST_SIGN : ∃ t, nsIn W.K mainGlobals "LONGEST_SIGN" = some (some (.int (3 : Nat) t))
  i_MOST_INT : ∃ t, nsIn W.K mainGlobals "MOST_INT" = some (some (.int (18446744073709551615 : Nat) t))
  t_WORDS : nsIn W.K mainGlobals "WORDS" = some (some (.ref a.tWORDS)) ∧ DicF W a.tWORDS wordsL
  t_NEAR_WORDS : nsIn W.K mainGlobals "NEAR_WORDS" = some (some (.ref a.tNEAR_WORDS)) ∧ DicF W a.tNEAR_WORDS nearL
  t_SIGNS : nsIn W.K mainGlobals "SIGNS" = some (some (.ref a.tSIGNS)) ∧ DicF W a.tSIGNS signsL
  t_LINE_ENDS : nsIn W.K mainGlobals "LINE_ENDS" = some (some (.ref a.tLINE_ENDS)) ∧ DicF W a.tLINE_ENDS lineEndsL
  t_BLANKS : nsIn W.K mainGlobals "BLANKS" = some (some (.ref a.tBLANKS)) ∧ DicF W a.tBLANKS blanksL
  t_REAL_ENDS : nsIn W.K mainGlobals "REAL_ENDS" = some (some (.ref a.tREAL_ENDS)) ∧ DicF W a.tREAL_ENDS realEndsL
  t_lawLetters : nsIn W.K mainGlobals "_law_LETTERS" = some (some (.ref a.tlawLetters)) ∧ TupF W a.tlawLetters letters
  t_lawSigns : nsIn W.K mainGlobals "_law_SIGNS" = some (some (.ref a.tlawSigns)) ∧ TupF W a.tlawSigns signs
  t_lawFar : nsIn W.K mainGlobals "_law_FAR" = some (some (.ref a.tlawFar)) ∧ TupF W a.tlawFar far
  b_len : nsIn W.K mainGlobals "len" = some none
  b_ord : nsIn W.K mainGlobals "ord" = some none
  b_chr : nsIn W.K mainGlobals "chr" = some none
  b_range : nsIn W.K mainGlobals "range" = some none
  g_Lex : nsIn W.K mainGlobals "Lex" = some (some (.ref a.cLex))
  g_Diags : nsIn W.K mainGlobals "Diags" = some (some (.ref a.cDiags))
end Mine
end
section
open PySem PySem.W PySem.Calls PySem.Spec PyProof.Rows
set_option Elab.async false
set_option maxRecDepth 100000
namespace Mine
structure La where
  lx : Addr
  d : Addr
  D : Addr
  dd : Addr
  T : Addr
  R : Addr
abbrev La.S (a : La) : List Addr := [a.d, a.T, a.R]
def lexNames : List Str := ["here", "peek", "put", "fault"]
structure LexD (a : La) (cs : Cs) (i : Nat) (es : List DictEntry) : Prop where
  len : es.length ≤ 50
  text : ∃ t, getL "text" es = some (some (.str (strS cs) t))
  at_ : ∃ t, getL "at" es = some (some (.int (i : Nat) t))
  diags : getL "diags" es = some (some (.ref a.D))
  tokens : getL "tokens" es = some (some (.ref a.T))
  none_ : ∀ x ∈ lexNames, getL x es = some none
structure LexS (A : Ad) (a : La) (cs : Cs) (i : Nat) (tk fl : List Dat) (news : Led) : Prop where
  inst : (a.lx, instObj A.cLex a.d) ∈ news
  dict : ∃ es k, (a.d, dictOf es k) ∈ news ∧ LexD a cs i es
  dinst : (a.D, instObj A.cDiags a.dd) ∈ news
  ddict : ∃ es k, (a.dd, dictOf es k) ∈ news ∧ getL "rows" es = some (some (.ref a.R)) ∧ getL "put" es = some none
  data : ∃ vs ws n n' tl, (a.T, listOf vs.toArray n) ∈ news ∧ (a.R, listOf ws.toArray n') ∈ news ∧ DatAll tl vs tk ∧ DatAll tl ws fl ∧ (∀ p ∈ tl, p ∈ news ∧ p.1 ∉ a.S ∧ p.2.cls = .type "tuple")
  ne1 : a.T ≠ a.R
  ne2 : a.d ≠ a.dd
  ne3 : a.lx ∉ a.S ∧ a.D ∉ a.S ∧ a.dd ∉ a.S ∧ a.d ≠ a.T ∧ a.d ≠ a.R

theorem names_ne : ("at" : Str) ≠ "text" ∧ ("at" : Str) ≠ "diags" ∧ ("at" : Str) ≠ "tokens" ∧ (∀ x ∈ lexNames, x ≠ ("at" : Str)) := by decide
theorem LexS.keep {A : Ad} {a : La} {cs : Cs} {i : Nat} {tk fl : List Dat} {news news' : Led} (h : LexS A a cs i tk fl news) (k : ∀ p ∈ news, p ∈ news') : LexS A a cs i tk fl news' := by
  obtain ⟨es, n, h1, h2⟩ := h.dict
  obtain ⟨es', n', h3, h4⟩ := h.ddict
  obtain ⟨vs, ws, k1, k2, tl, q1, q2, q3, q4, q5⟩ := h.data
  exact ⟨k _ h.inst, ⟨es, n, k _ h1, h2⟩, k _ h.dinst, ⟨es', n', k _ h3, h4⟩, ⟨vs, ws, k1, k2, tl, k _ q1, k _ q2, q3, q4, fun p hp => ⟨k _ (q5 p hp).1, (q5 p hp).2⟩⟩, h.ne1, h.ne2, h.ne3⟩
theorem LexS.drop {A : Ad} {a : La} {cs : Cs} {i : Nat} {tk fl : List Dat} {news news' : Led} {U Lf : Addr} {g h' : Heap} {vu : Array Value} {ku : Nat} (N : News g Lf h' news) (hU : (U, listOf vu ku) ∈ news) (hn : U ∉ a.S) (h : LexS A a cs i tk fl news) (k : ∀ p ∈ news, p.1 ≠ U → p ∈ news') : LexS A a cs i tk fl news' := by
  obtain ⟨es, n, h1, h2⟩ := h.dict
  obtain ⟨es', n', h3, h4⟩ := h.ddict
  obtain ⟨vs, ws, k1, k2, tl, q1, q2, q3, q4, q5⟩ := h.data
  have ne : ∀ {b : Addr} {o : Obj}, (b, o) ∈ news → o.cls ≠ .type "list" → b ≠ U := fun hb hc => news_ne N hb hU fun e => hc (e ▸ rfl)
  exact ⟨k _ h.inst (ne h.inst fun e => by cases e), ⟨es, n, k _ h1 (ne h1 (o := dictOf es n) fun e => absurd (Value.type.inj e) (by decide)), h2⟩, k _ h.dinst (ne h.dinst fun e => by cases e), ⟨es', n', k _ h3 (ne h3 (o := dictOf es' n') fun e => absurd (Value.type.inj e) (by decide)), h4⟩,
    ⟨vs, ws, k1, k2, tl, k _ q1 fun e => hn (e ▸ .tail _ (.head _)), k _ q2 fun e => hn (e ▸ .tail _ (.tail _ (.head _))), q3, q4, fun p hp => ⟨k _ (q5 p hp).1 (ne (b := p.1) (o := p.2) (q5 p hp).1 (by rw [(q5 p hp).2.2]; exact fun e => absurd (Value.type.inj e) (by decide))), (q5 p hp).2⟩⟩, h.ne1, h.ne2, h.ne3⟩
theorem LexS.setAt {A : Ad} {a : La} {cs : Cs} {i j : Nat} {tk fl : List Dat} {news : Led} {es : List DictEntry} {k : Nat} {hsh : Int} {t u : Tok} (h : LexS A a cs i tk fl news) (hes : (a.d, dictOf es k) ∈ news) (hd : LexD a cs i es) :
    LexS A a cs j tk fl (setA a.d (dictOf (putL "at" hsh (.str "at" t) (.int (j : Nat) u) es) (putN "at" es k)) news) := by
  obtain ⟨es', n', h3, h4⟩ := h.ddict
  obtain ⟨vs, ws, k1, k2, tl, q1, q2, q3, q4, q5⟩ := h.data
  obtain ⟨n1, n2, n3, n4, n5⟩ := h.ne3
  have old : ∀ {p : Addr × Obj}, p ∈ news → p.1 ≠ a.d → p ∈ setA a.d (dictOf (putL "at" hsh (.str "at" t) (.int (j : Nat) u) es) (putN "at" es k)) news := fun hp hn => setA_old hp hn
  have out : ∀ {x : Addr}, x ∉ a.S → x ≠ a.d := fun hx e => hx (e ▸ .head _)
  refine ⟨old h.inst (out n1), ⟨_, _, setA_new, ?_⟩, old h.dinst (out n2), ⟨es', n', old h3 (Ne.symm h.ne2), h4⟩, ⟨vs, ws, k1, k2, tl, old q1 (Ne.symm n4), old q2 (Ne.symm n5), q3, q4, fun p hp => ⟨old (q5 p hp).1 (out (q5 p hp).2.1), (q5 p hp).2⟩⟩, h.ne1, h.ne2, h.ne3⟩
  obtain ⟨t1, e1⟩ := hd.text
  obtain ⟨t2, e2⟩ := hd.at_
  refine ⟨by rw [putL_length_hit e2]; exact hd.len, ⟨t1, by rw [getL_put_ne (by decide)]; exact e1⟩, ⟨u, getL_put⟩, by rw [getL_put_ne (by decide)]; exact hd.diags, by rw [getL_put_ne (by decide)]; exact hd.tokens, fun x hx => by rw [getL_put_ne (names_ne.2.2.2 x hx)]; exact hd.none_ x hx⟩

section
variable {W : Wd} {A : Ad} {a : La} {base g h : Heap} {c : Cx} {sc : Scope} {n : Nat} {m : Str → Option Value} {news : Led} {s : Shared} {tk' : Nat} {E : Value → Shared → Prop} {cs : Cs} {i : Nat} {tk fl : List Dat}
theorem z_aText {x : Str} {xp pos : Pos} {Q : Value → Shared → Prop} (S : Wk W base c g sc n) (F : Fr g c.L h m) (N : News g c.L h news) (k : Lc sc x) (hm : m x = some (.ref a.lx)) (KF : Kf W A) (L : LexS A a cs i tk fl news)
    (hq : ∀ t tk', Q (.str (strS cs) t) (st s h tk')) : wpAny W.M c.A (eval (.Attribute (.Name x xp) "text" pos) c.env) Q E (st s h tk') := by
  obtain ⟨es, n, h1, h2⟩ := L.dict
  obtain ⟨t, e⟩ := h2.text
  exact z_attr S F N k hm KF.kLex L.inst h1 (by decide) e rfl (hq t)
theorem z_aAt {x : Str} {xp pos : Pos} {Q : Value → Shared → Prop} (S : Wk W base c g sc n) (F : Fr g c.L h m) (N : News g c.L h news) (k : Lc sc x) (hm : m x = some (.ref a.lx)) (KF : Kf W A) (L : LexS A a cs i tk fl news)
    (hq : ∀ t tk', Q (.int (i : Nat) t) (st s h tk')) : wpAny W.M c.A (eval (.Attribute (.Name x xp) "at" pos) c.env) Q E (st s h tk') := by
  obtain ⟨es, n, h1, h2⟩ := L.dict
  obtain ⟨t, e⟩ := h2.at_
  exact z_attr S F N k hm KF.kLex L.inst h1 (by decide) e rfl (hq t)
theorem z_aDiags {x : Str} {xp pos : Pos} {Q : Value → Shared → Prop} (S : Wk W base c g sc n) (F : Fr g c.L h m) (N : News g c.L h news) (k : Lc sc x) (hm : m x = some (.ref a.lx)) (KF : Kf W A) (L : LexS A a cs i tk fl news)
    (hq : ∀ tk', Q (.ref a.D) (st s h tk')) : wpAny W.M c.A (eval (.Attribute (.Name x xp) "diags" pos) c.env) Q E (st s h tk') := by
  obtain ⟨es, n, h1, h2⟩ := L.dict
  exact z_attr S F N k hm KF.kLex L.inst h1 (by decide) h2.diags rfl hq
theorem z_aTokens {x : Str} {xp pos : Pos} {Q : Value → Shared → Prop} (S : Wk W base c g sc n) (F : Fr g c.L h m) (N : News g c.L h news) (k : Lc sc x) (hm : m x = some (.ref a.lx)) (KF : Kf W A) (L : LexS A a cs i tk fl news)
    (hq : ∀ tk', Q (.ref a.T) (st s h tk')) : wpAny W.M c.A (eval (.Attribute (.Name x xp) "tokens" pos) c.env) Q E (st s h tk') := by
  obtain ⟨es, n, h1, h2⟩ := L.dict
  exact z_attr S F N k hm KF.kLex L.inst h1 (by decide) h2.tokens rfl hq
theorem z_setAt {j : Nat} {u : Tok} {Q : Unit → Shared → Prop} (S : Wk W base c g sc n) (F : Fr g c.L h m) (N : News g c.L h news) (KF : Kf W A) (L : LexS A a cs i tk fl news)
    (hq : ∀ h' tk' news', Fr g c.L h' m → News g c.L h' news' → LexS A a cs j tk fl news' → Kp a.S news news' → Q () (st s h' tk')) : wpAny W.M c.A (setAttr (.ref a.lx) "at" (.int (j : Nat) u)) Q E (st s h tk') := by
  obtain ⟨es, k, h1, h2⟩ := L.dict
  obtain ⟨t, e⟩ := h2.at_
  exact z_set S F N KF.kLex L.inst h1 (by decide) (by rw [e]; rfl) (by have := h2.len; lia) fun h' tk'' hsh t F' N' => hq h' tk'' _ F' N' (L.setAt h1 h2) (Kp.set (.head _))
theorem x_augAt {x : Str} {xp tpos pos : Pos} {value : Expr} {rest : List Stmt} {Q : Flow → Shared → Prop} (S : Wk W base c g sc n) (F : Fr g c.L h m) (N : News g c.L h news) (k : Lc sc x) (hm : m x = some (.ref a.lx)) (KF : Kf W A) (L : LexS A a cs i tk fl news)
    (hv : ∀ tk', wpAny W.M c.A (eval value c.env) (fun v s₁ => ∃ (j : Nat) (t : Tok) (tk' : Nat), v = .int (j : Nat) t ∧ s₁ = st s h tk' ∧
      ∀ h' tk' news', Fr g c.L h' m → News g c.L h' news' → LexS A a cs (i + j) tk fl news' → Kp a.S news news' → wpAny W.M c.A (execs rest c.env) Q E (st s h' tk')) E (st s h tk')) :
    wpAny W.M c.A (execs (.AugAssign (.Attribute (.Name x xp) "at" tpos) .Add value pos :: rest) c.env) Q E (st s h tk') := by
  obtain ⟨es, k', h1, h2⟩ := L.dict
  obtain ⟨t, e⟩ := h2.at_
  refine x_augA (z_local S F k hm (z_get S F N KF.kLex L.inst h1 (by decide) e rfl fun tk₁ => wpAny_mono (hv tk₁) (fun v s₁ q => ?_) fun _ _ q => q))
  obtain ⟨j, t', tk₂, rfl, rfl, q⟩ := q
  refine z_iadd fun t₃ tk₃ => ?_
  have : ((i : Nat) : Int) + ((j : Nat) : Int) = ((i + j : Nat) : Int) := by lia
  rw [this]
  exact z_setAt S F N KF L q
theorem z_num {n k : Nat} {pos : Pos} {A : Around} {M : Model} {env : Env} {Q : Value → Shared → Prop} (hq : ∀ t tk', Q (.int ((@OfNat.ofNat Nat n (instOfNatNat n) : Nat) : Int) t) (st s h tk')) :
    wpAny M A (eval (.Constant (.int (@OfNat.ofNat Int n _)) k pos) env) Q E (st s h tk') := z_int hq
theorem z_nat {j : Nat} {i : Int} {k : Nat} {pos : Pos} {A : Around} {M : Model} {env : Env} {Q : Value → Shared → Prop} (hi : i = (j : Int)) (hq : ∀ t tk', Q (.int (j : Nat) t) (st s h tk')) : wpAny M A (eval (.Constant (.int i) k pos) env) Q E (st s h tk') := by
  rw [hi]; exact z_int hq
end
end Mine
end
section
open PySem PySem.W PySem.Calls PySem.Spec PyProof.Rows
set_option Elab.async false
set_option maxRecDepth 100000
namespace Mine
theorem noPy {a b : Nat} (h : b < 1000000000) : Builtin.divisionGoesByPylong (a : Int) (b : Int) = false := PyProof.noPylong_small (by lia)
section
variable {W : Wd} {A : Around} {E : Value → Shared → Prop} {s : Shared} {h : Heap} {tk : Nat} {t u : Tok} {Q : Value → Shared → Prop} {a b : Nat}
theorem n_add (hq : ∀ t tk', Q (.int (a + b : Nat) t) (st s h tk')) : wpAny W.M A (binaryOp .Add (.int (a : Nat) t) (.int (b : Nat) u)) Q E (st s h tk) := z_add fun t tk' => by
  have := hq t tk'; rwa [Int.natCast_add] at this
theorem n_iadd (hq : ∀ t tk', Q (.int (a + b : Nat) t) (st s h tk')) : wpAny W.M A (inplaceOp .Add (.int (a : Nat) t) (.int (b : Nat) u)) Q E (st s h tk) := z_iadd fun t tk' => by
  have := hq t tk'; rwa [Int.natCast_add] at this
theorem n_sub (hab : b ≤ a) (hq : ∀ t tk', Q (.int (a - b : Nat) t) (st s h tk')) : wpAny W.M A (binaryOp .Sub (.int (a : Nat) t) (.int (b : Nat) u)) Q E (st s h tk) := P.sub_int (by
  have := hq tk (tk + 1); rwa [Int.natCast_sub hab] at this)
theorem n_isub (hab : b ≤ a) (hq : ∀ t tk', Q (.int (a - b : Nat) t) (st s h tk')) : wpAny W.M A (inplaceOp .Sub (.int (a : Nat) t) (.int (b : Nat) u)) Q E (st s h tk) := P.isub_int (by
  have := hq tk (tk + 1); rwa [Int.natCast_sub hab] at this)
theorem n_mul (ha : a < 2 ^ 60) (hq : ∀ t tk', Q (.int (a * b : Nat) t) (st s h tk')) : wpAny W.M A (binaryOp .Mult (.int (a : Nat) t) (.int (b : Nat) u)) Q E (st s h tk) := P.mul_int (by
  have := hq tk (tk + 1); rwa [Int.natCast_mul] at this) (IntMulOk.of_left (PySem.intBits_le_64 (by lia) (by lia)))
theorem n_div (ha : b < 1000000000) (hb : b ≠ 0) (hq : ∀ t tk', Q (.int (a / b : Nat) t) (st s h tk')) : wpAny W.M A (binaryOp .FloorDiv (.int (a : Nat) t) (.int (b : Nat) u)) Q E (st s h tk) :=
  floordiv_int (by lia) (by
    have := hq tk (tk + 1)
    rw [Int.natCast_ediv, ← Int.fdiv_eq_ediv_of_nonneg _ (by lia)] at this
    exact this) (.inl (noPy ha))
theorem n_mod (hb : b ≠ 0) (hq : ∀ t tk', Q (.int (a % b : Nat) t) (st s h tk')) : wpAny W.M A (binaryOp .Mod (.int (a : Nat) t) (.int (b : Nat) u)) Q E (st s h tk) :=
  PyProof.Rows.mod_int (by lia) (by
    have := hq tk (tk + 1)
    rw [Int.natCast_emod, ← Int.fmod_eq_emod_of_nonneg _ (by lia)] at this
    exact this)
theorem n_lt (hq : Q (.bool (decide (a < b))) (st s h tk)) : wpAny W.M A (compareOp .Lt (.int (a : Nat) t) (.int (b : Nat) u)) Q E (st s h tk) := P.lt_int (by
  have : decide ((a : Int) < (b : Int)) = decide (a < b) := by rw [decide_eq_decide]; lia
  rw [this]; exact hq)
theorem n_gt (hq : Q (.bool (decide (b < a))) (st s h tk)) : wpAny W.M A (compareOp .Gt (.int (a : Nat) t) (.int (b : Nat) u)) Q E (st s h tk) := P.gt_int (by
  have : decide ((a : Int) > (b : Int)) = decide (b < a) := by rw [decide_eq_decide]; lia
  rw [this]; exact hq)
theorem n_ge (hq : Q (.bool (decide (b ≤ a))) (st s h tk)) : wpAny W.M A (compareOp .GtE (.int (a : Nat) t) (.int (b : Nat) u)) Q E (st s h tk) := P.ge_int (by
  have : decide ((a : Int) ≥ (b : Int)) = decide (b ≤ a) := by rw [decide_eq_decide]; lia
  rw [this]; exact hq)
theorem n_le (hq : Q (.bool (decide (a ≤ b))) (st s h tk)) : wpAny W.M A (compareOp .LtE (.int (a : Nat) t) (.int (b : Nat) u)) Q E (st s h tk) := P.le_int (by
  have : decide ((a : Int) ≤ (b : Int)) = decide (a ≤ b) := by rw [decide_eq_decide]; lia
  rw [this]; exact hq)
theorem n_eq (hq : Q (.bool (decide (a = b))) (st s h tk)) : wpAny W.M A (compareOp .Eq (.int (a : Nat) t) (.int (b : Nat) u)) Q E (st s h tk) := P.eq_int (by
  have : ((a : Int) == (b : Int)) = decide (a = b) := by
    by_cases e : a = b
    · subst e; simp
    · rw [decide_eq_false e]; exact beq_eq_false_iff_ne.mpr (by lia)
  rw [this]; exact hq)
theorem n_ne (hq : Q (.bool (!decide (a = b))) (st s h tk)) : wpAny W.M A (compareOp .NotEq (.int (a : Nat) t) (.int (b : Nat) u)) Q E (st s h tk) := P.ne_int (by
  have : ((a : Int) != (b : Int)) = !decide (a = b) := by
    by_cases e : a = b
    · subst e; simp
    · rw [decide_eq_false e]; exact bne_iff_ne.mpr (by lia)
  rw [this]; exact hq)
theorem n_ord {c : Nat} (hq : ∀ t tk', Q (.int (c : Nat) t) (st s h tk')) : wpAny W.M A (call (.builtin "ord") [.str (ch (some c)) t]) Q E (st s h tk) := P.ord_of_char (hq _ _)
theorem n_chr {c : Nat} (hc : c < 1114112) (hq : ∀ t tk', Q (.str (strS [c]) t) (st s h tk')) : wpAny W.M A (call (.builtin "chr") [.int (c : Nat) t]) Q E (st s h tk) :=
  chr_of_range (by lia) (by lia) (by
    have := hq tk (tk + 1)
    simpa using this)
theorem item_str_ch {cs : Cs} {i c : Nat} (hi : cs[i]? = some c) : (seqIndex? (i : Int) (strS cs).length).bind ((strS cs).cps[·]?) = some c := by
  have hlt : i < cs.length := (List.getElem?_eq_some_iff.mp hi).1
  rw [strS_len]
  have : seqIndex? (i : Int) cs.length = some i := by
    unfold seqIndex?
    simp only [show ¬ ((i : Int) < 0) by lia, if_false]
    rw [if_pos (by simp only [Bool.and_eq_true, decide_eq_true_eq]; lia)]
    simp
  rw [this]
  simpa using hi
theorem n_item {value slice : Expr} {cs : Cs} {i c : Nat} (hi : cs[i]? = some c) (hl : cs.length ≤ 100000) (hq : ∀ t tk', Q (.str (strS [c]) t) (st s h tk'))
    (hs : subscripted slice false (.str (strS cs) t) (.int (i : Nat) u) = operate [.str (strS cs) t, .int (i : Nat) u] (getItem (.str (strS cs) t) (.int (i : Nat) u))) :
    wpAny W.M A (subscriptTail value slice (.str (strS cs) t) (.int (i : Nat) u)) Q E (st s h tk) := by
  have hlt : i < cs.length := (List.getElem?_eq_some_iff.mp hi).1
  refine tail_any (T := "str") (typeIs_str _ _ _) PySem.F.slot_str_getitem.lookup (P.getItem_str ?_ (item_str_ch hi) (hq _ _)) hs
  simp only [Bool.or_eq_false_iff, decide_eq_false_iff_not]
  lia
end

theorem find_keys {es : Array DictEntry} {keys : List Cs} {x : Cs} (hk : es.toList.map keyCs = keys.map some) : (findBy Value.isStrOf es (strS x)).isSome = keys.contains x := by
  unfold findBy
  rw [Option.isSome_map, ← Array.find?_toList]
  generalize es.toList = l at hk
  induction l generalizing keys with
  | nil => cases keys with
    | nil => rfl
    | cons k r => cases hk
  | cons e l ih =>
    cases keys with
    | nil => cases hk
    | cons k r =>
      rw [List.map_cons, List.map_cons] at hk
      obtain ⟨h1, h2⟩ := List.cons.inj hk
      rw [List.find?_cons, List.contains_cons]
      have e1 : Value.isStrOf (strS x) e.key = (x == k) := by
        obtain ⟨y, t, hy, this⟩ : ∃ y t, e.key = .str y t ∧ y.cps.toList = k := by
          unfold keyCs at h1
          split at h1
          · rename_i y t hk; exact ⟨y, t, hk, Option.some.inj h1⟩
          · cases h1
        rw [← isStr_of, hy]
        show (y == strS x) = (x == k)
        rw [← this]
        by_cases e : y = strS x
        · subst e; simp
        · rw [beq_eq_false_iff_ne.mpr e]
          symm
          refine beq_eq_false_iff_ne.mpr fun q => e ?_
          rw [q]
      rw [e1]
      cases hx : (x == k) with
      | true => rfl
      | false => simp only [Bool.false_or]; exact ih h2
section
variable {W : Wd} {base g h : Heap} {c : Cx} {sc : Scope} {n : Nat} {m : Str → Option Value} {s : Shared} {tk : Nat} {E : Value → Shared → Prop} {Q : Value → Shared → Prop} {t : Tok}
theorem z_inDic {a : Addr} {keys : List Cs} {x : Cs} (S : Wk W base c g sc n) (F : Fr g c.L h m) (hd : DicF W a keys) (hq : ∀ tk', Q (.bool (keys.contains x)) (st s h tk')) :
    wpAny W.M c.A (compareOp .In (.str (strS x) t) (.ref a)) Q E (st s h tk) := by
  obtain ⟨es, k, hl, hk, hkeys, hlo⟩ := hd
  refine wpAny_in_of (strKind_is W.prog W.w (strS x) t) hlo (mapOf_K (prog := W.prog) (S.G.X.keeps F.keep) hl hk) ?_
  show Q (.bool (findBy Value.isStrOf es (strS x)).isSome) _
  rw [find_keys hkeys]
  exact hq _
end
end Mine
end
section
open PySem PySem.W PySem.Calls PySem.Spec PyProof.Rows
set_option Elab.async false
set_option maxRecDepth 100000
namespace Mine
section
variable {W : Wd} {A : Ad} {a : La} {base g h : Heap} {c : Cx} {sc : Scope} {n : Nat} {m : Str → Option Value} {news : Led} {s : Shared} {tk' : Nat} {E : Value → Shared → Prop} {cs : Cs} {i : Nat} {tk fl : List Dat}
theorem z_append {T : Addr} {vs : List Value} {k : Nat} {x : Value} {Q : Value → Shared → Prop} (F : Fr g c.L h m) (N : News g c.L h news) (hm : (T, listOf vs.toArray k) ∈ news) (hz : vs.length ≤ 1000000)
    (hq : ∀ h' tk', Fr g c.L h' m → News g c.L h' (setA T (listOf (vs ++ [x]).toArray (k + 1)) news) → Q .none (st s h' tk')) : wpAny W.M c.A (call (.builtin "list.append") [.ref T, x]) Q E (st s h tk') :=
  append_K (news := (T, listOf vs.toArray k) :: news.filter fun p => decide (p.1 ≠ T)) F (news_front N hm) (upd_front (o' := listOf (vs.toArray.push x) (k + 1))) (fun h' F' N' => hq h' _ F' (by rw [← List.push_toArray]; exact N')) (by rw [List.size_toArray]; show vs.length ≤ sizeLine; rw [sizeLine_eq]; lia)
theorem z_mapp {T : Addr} {vs : Array Value} {k : Nat} {pl : Sem Bool} {Q : Value × List Value → Shared → Prop} (N : News g c.L h news) (hm : (T, listOf vs k) ∈ news)
    (hq : Q (.builtin "list.append", [.ref T]) (st s h tk')) : wpAny W.M c.A (getMethod (.ref T) "append" pl) Q E (st s h tk') :=
  listMethod_K (s := st s h tk') N hm PySem.F.slot_list_append PySem.F.type_list_append hq
theorem z_tuple {vs : List Value} {Q : Value → Shared → Prop} (F : Fr g c.L h m) (N : News g c.L h news) (hz : vs.length ≤ 1000)
    (hq : ∀ q h' tk', Fr g c.L h' m → News g c.L h' ((q, { cls := .type "tuple", data := .seq vs.toArray }) :: news) → (∀ p ∈ news, p.1 ≠ q) → Q (.ref q) (st s h' tk')) : wpAny W.M c.A (newTuple vs) Q E (st s h tk') :=
  newTuple_N F N (fun h' F' N' => hq _ h' _ F' N' fun p hp e => absurd (Heap.lt_size (N p hp).1) (by rw [e]; exact Nat.lt_irrefl _)) (by show vs.length ≤ sizeLine; rw [sizeLine_eq]; lia)
theorem z_list {vs : List Value} {Q : Value → Shared → Prop} (F : Fr g c.L h m) (N : News g c.L h news) (hz : vs.length ≤ 1000)
    (hq : ∀ q h' tk', Fr g c.L h' m → News g c.L h' ((q, listOf vs.toArray 0) :: news) → (∀ p ∈ news, p.1 ≠ q) → Q (.ref q) (st s h' tk')) : wpAny W.M c.A (newList vs) Q E (st s h tk') :=
  newList_N F N (fun h' F' N' => hq _ h' _ F' N' fun p hp e => absurd (Heap.lt_size (N p hp).1) (by rw [e]; exact Nat.lt_irrefl _)) (by show vs.length ≤ sizeLine; rw [sizeLine_eq]; lia)
end
def Apart (a : La) (news : Led) (v : Value) (d : Dat) : Prop := ∃ tl, (∀ p ∈ tl, p ∈ news ∧ p.1 ∉ a.S ∧ p.2.cls = .type "tuple") ∧ DatIn tl v d
theorem Apart.str {a : La} {news : Led} {x : Str} {t : Tok} : Apart a news (.str x t) (.str x) := ⟨[], fun _ h => (nomatch h), .str x t⟩
theorem Apart.int {a : La} {news : Led} {x : Int} {t : Tok} : Apart a news (.int x t) (.int x) := ⟨[], fun _ h => (nomatch h), .int x t⟩
theorem Apart.kp {a : La} {news news' : Led} {v : Value} {d : Dat} (h : Apart a news v d) (k : Kp a.S news news') : Apart a news' v d := by
  obtain ⟨tl, h1, h2⟩ := h
  exact ⟨tl, fun p hp => ⟨k p (h1 p hp).1 (h1 p hp).2.1, (h1 p hp).2⟩, h2⟩
def tupOf (vs : List Value) : Obj := { cls := .type "tuple", data := .seq vs.toArray }
theorem LexS.fresh {A : Ad} {a : La} {cs : Cs} {i : Nat} {tk fl : List Dat} {news : Led} {q : Addr} (L : LexS A a cs i tk fl news) (hq : ∀ p ∈ news, p.1 ≠ q) : q ∉ a.S := by
  obtain ⟨es, n, h1, h2⟩ := L.dict
  obtain ⟨vs, ws, k1, k2, tl, q1, q2, q3, q4, q5⟩ := L.data
  intro hm
  rcases List.mem_cons.mp hm with e | hm
  · exact hq _ h1 e.symm
  rcases List.mem_cons.mp hm with e | hm
  · exact hq _ q1 e.symm
  · exact hq _ q2 (List.mem_singleton.mp hm).symm
theorem Apart.tup {a : La} {news : Led} {q : Addr} {vs : List Value} {ds : List Dat} (hq : q ∉ a.S) (h : ∃ tl, (∀ p ∈ tl, p ∈ news ∧ p.1 ∉ a.S ∧ p.2.cls = .type "tuple") ∧ DatAll tl vs ds) : Apart a ((q, tupOf vs) :: news) (.ref q) (.tuple ds) := by
  obtain ⟨tl, h1, h2⟩ := h
  refine ⟨(q, tupOf vs) :: tl, fun p hp => ?_, .tuple (n := 0) (.head _) (DatAll.mono (fun p hp => .tail _ hp) h2)⟩
  rcases List.mem_cons.mp hp with rfl | hp
  · exact ⟨.head _, hq, rfl⟩
  · exact ⟨.tail _ (h1 p hp).1, (h1 p hp).2⟩
theorem aparts_nil {a : La} {news : Led} : ∃ tl, (∀ p ∈ tl, p ∈ news ∧ p.1 ∉ a.S ∧ p.2.cls = .type "tuple") ∧ DatAll tl [] [] := ⟨[], fun _ h => (nomatch h), .nil⟩
theorem aparts_cons {a : La} {news : Led} {v : Value} {d : Dat} {vs : List Value} {ds : List Dat} (h : Apart a news v d) (k : ∃ tl, (∀ p ∈ tl, p ∈ news ∧ p.1 ∉ a.S ∧ p.2.cls = .type "tuple") ∧ DatAll tl vs ds) :
    ∃ tl, (∀ p ∈ tl, p ∈ news ∧ p.1 ∉ a.S ∧ p.2.cls = .type "tuple") ∧ DatAll tl (v :: vs) (d :: ds) := by
  obtain ⟨t1, a1, a2⟩ := h
  obtain ⟨t2, b1, b2⟩ := k
  refine ⟨t1 ++ t2, fun p hp => ?_, .cons (DatIn.mono (fun p hp => List.mem_append.mpr (.inl hp)) a2) (DatAll.mono (fun p hp => List.mem_append.mpr (.inr hp)) b2)⟩
  rcases List.mem_append.mp hp with hp | hp
  · exact a1 p hp
  · exact b1 p hp
theorem LexS.pushT {A : Ad} {a : La} {cs : Cs} {i : Nat} {tk fl : List Dat} {news : Led} {v : Value} {d : Dat} {vs : List Value} {k : Nat} {g h : Heap} {Lf : Addr} (N : News g Lf h news) (L : LexS A a cs i tk fl news) (hT : (a.T, listOf vs.toArray k) ∈ news)
    (hv : Apart a news v d) : LexS A a cs i (tk ++ [d]) fl (setA a.T (listOf (vs ++ [v]).toArray (k + 1)) news) ∧ Kp a.S news (setA a.T (listOf (vs ++ [v]).toArray (k + 1)) news) := by
  obtain ⟨es, n, h1, h2⟩ := L.dict
  obtain ⟨es', n', h3, h4⟩ := L.ddict
  obtain ⟨vs', ws, k1, k2, tl, q1, q2, q3, q4, q5⟩ := L.data
  obtain ⟨n1, n2, n3, n4, n5⟩ := L.ne3
  obtain ⟨tv, v1, v2⟩ := hv
  have e := news_eq N hT q1
  have e1 : vs = vs' := by simpa using congrArg (fun o : Obj => match o.data with | .seq xs _ => xs.toList | _ => []) e
  have e2 : k = k1 := by simpa using congrArg (fun o : Obj => match o.data with | .seq _ n => n | _ => 0) e
  subst e1 e2
  have old : ∀ {p : Addr × Obj}, p ∈ news → p.1 ≠ a.T → p ∈ setA a.T (listOf (vs ++ [v]).toArray (k + 1)) news := fun hp hn => setA_old hp hn
  have out : ∀ {x : Addr}, x ∉ a.S → x ≠ a.T := fun hx e => hx (e ▸ .tail _ (.head _))
  refine ⟨⟨old L.inst (out n1), ⟨es, n, old h1 n4, h2⟩, old L.dinst (out n2), ⟨es', n', old h3 (out n3), h4⟩, ⟨vs ++ [v], ws, k + 1, k2, tl ++ tv, setA_new, old q2 (Ne.symm L.ne1), ?_, DatAll.mono (fun p hp => List.mem_append.mpr (.inl hp)) q4, fun p hp => ?_⟩, L.ne1, L.ne2, L.ne3⟩, Kp.set (.tail _ (.head _))⟩
  · exact (DatAll.mono (fun p hp => List.mem_append.mpr (.inl hp)) q3).append (.one (DatIn.mono (fun p hp => List.mem_append.mpr (.inr hp)) v2))
  · rcases List.mem_append.mp hp with hp | hp
    · exact ⟨old (q5 p hp).1 (out (q5 p hp).2.1), (q5 p hp).2⟩
    · exact ⟨old (v1 p hp).1 (out (v1 p hp).2.1), (v1 p hp).2⟩
theorem LexS.pushR {A : Ad} {a : La} {cs : Cs} {i : Nat} {tk fl : List Dat} {news : Led} {v : Value} {d : Dat} {vs : List Value} {k : Nat} {g h : Heap} {Lf : Addr} (N : News g Lf h news) (L : LexS A a cs i tk fl news) (hT : (a.R, listOf vs.toArray k) ∈ news)
    (hv : Apart a news v d) : LexS A a cs i tk (fl ++ [d]) (setA a.R (listOf (vs ++ [v]).toArray (k + 1)) news) ∧ Kp a.S news (setA a.R (listOf (vs ++ [v]).toArray (k + 1)) news) := by
  obtain ⟨es, n, h1, h2⟩ := L.dict
  obtain ⟨es', n', h3, h4⟩ := L.ddict
  obtain ⟨ws, vs', k2, k1, tl, q2, q1, q4, q3, q5⟩ := L.data
  obtain ⟨n1, n2, n3, n4, n5⟩ := L.ne3
  obtain ⟨tv, v1, v2⟩ := hv
  have e := news_eq N hT q1
  have e1 : vs = vs' := by simpa using congrArg (fun o : Obj => match o.data with | .seq xs _ => xs.toList | _ => []) e
  have e2 : k = k1 := by simpa using congrArg (fun o : Obj => match o.data with | .seq _ n => n | _ => 0) e
  subst e1 e2
  have old : ∀ {p : Addr × Obj}, p ∈ news → p.1 ≠ a.R → p ∈ setA a.R (listOf (vs ++ [v]).toArray (k + 1)) news := fun hp hn => setA_old hp hn
  have out : ∀ {x : Addr}, x ∉ a.S → x ≠ a.R := fun hx e => hx (e ▸ .tail _ (.tail _ (.head _)))
  refine ⟨⟨old L.inst (out n1), ⟨es, n, old h1 n5, h2⟩, old L.dinst (out n2), ⟨es', n', old h3 (out n3), h4⟩, ⟨ws, vs ++ [v], k2, k + 1, tl ++ tv, old q2 L.ne1, setA_new, DatAll.mono (fun p hp => List.mem_append.mpr (.inl hp)) q4, ?_, fun p hp => ?_⟩, L.ne1, L.ne2, L.ne3⟩, Kp.set (.tail _ (.tail _ (.head _)))⟩
  · exact (DatAll.mono (fun p hp => List.mem_append.mpr (.inl hp)) q3).append (.one (DatIn.mono (fun p hp => List.mem_append.mpr (.inr hp)) v2))
  · rcases List.mem_append.mp hp with hp | hp
    · exact ⟨old (q5 p hp).1 (out (q5 p hp).2.1), (q5 p hp).2⟩
    · exact ⟨old (v1 p hp).1 (out (v1 p hp).2.1), (v1 p hp).2⟩
theorem LexS.lens {A : Ad} {a : La} {cs : Cs} {i : Nat} {tk fl : List Dat} {news : Led} (L : LexS A a cs i tk fl news) : ∃ (vs ws : List Value) (k k' : Nat), (a.T, listOf vs.toArray k) ∈ news ∧ (a.R, listOf ws.toArray k') ∈ news ∧ vs.length = tk.length ∧ ws.length = fl.length := by
  obtain ⟨vs, ws, k1, k2, tl, q1, q2, q3, q4, q5⟩ := L.data
  exact ⟨vs, ws, k1, k2, q1, q2, q3.length, q4.length⟩
section
variable {W : Wd} {A : Ad} {a : La} {base g h : Heap} {c : Cx} {sc : Scope} {n : Nat} {m : Str → Option Value} {news : Led} {s : Shared} {tk' : Nat} {E : Value → Shared → Prop} {cs : Cs} {i : Nat} {tk fl : List Dat}
theorem z_pushT {vs : List Value} {ds : List Dat} {Q : Value → Shared → Prop} (F : Fr g c.L h m) (N : News g c.L h news) (L : LexS A a cs i tk fl news) (hz : tk.length ≤ 100000) (hv : vs.length ≤ 10)
    (hd : ∃ tl, (∀ p ∈ tl, p ∈ news ∧ p.1 ∉ a.S ∧ p.2.cls = .type "tuple") ∧ DatAll tl vs ds)
    (hq : ∀ h' tk' news', Fr g c.L h' m → News g c.L h' news' → LexS A a cs i (tk ++ [.tuple ds]) fl news' → Kp a.S news news' → Q .none (st s h' tk')) :
    wpAny W.M c.A (newTuple vs) (fun v s₁ => wpAny W.M c.A (call (.builtin "list.append") [.ref a.T, v]) Q E s₁) E (st s h tk') := by
  refine z_tuple F N (by lia) fun q h₁ tk₁ F₁ N₁ hne => ?_
  have L₁ : LexS A a cs i tk fl ((q, tupOf vs) :: news) := L.keep fun p hp => .tail _ hp
  obtain ⟨ts, rs, k, k', hT, hR, e1, e2⟩ := L₁.lens
  refine z_append F₁ N₁ hT (by lia) fun h₂ tk₂ F₂ N₂ => ?_
  obtain ⟨L₂, K₂⟩ := L₁.pushT N₁ hT (Apart.tup (L.fresh hne) hd)
  exact hq h₂ tk₂ _ F₂ N₂ L₂ (Kp.push.trans K₂)
theorem z_pushR {vs : List Value} {ds : List Dat} {Q : Value → Shared → Prop} (F : Fr g c.L h m) (N : News g c.L h news) (L : LexS A a cs i tk fl news) (hz : fl.length ≤ 100000) (hv : vs.length ≤ 10)
    (hd : ∃ tl, (∀ p ∈ tl, p ∈ news ∧ p.1 ∉ a.S ∧ p.2.cls = .type "tuple") ∧ DatAll tl vs ds)
    (hq : ∀ h' tk' news', Fr g c.L h' m → News g c.L h' news' → LexS A a cs i tk (fl ++ [.tuple ds]) news' → Kp a.S news news' → Q .none (st s h' tk')) :
    wpAny W.M c.A (newTuple vs) (fun v s₁ => wpAny W.M c.A (call (.builtin "list.append") [.ref a.R, v]) Q E s₁) E (st s h tk') := by
  refine z_tuple F N (by lia) fun q h₁ tk₁ F₁ N₁ hne => ?_
  have L₁ : LexS A a cs i tk fl ((q, tupOf vs) :: news) := L.keep fun p hp => .tail _ hp
  obtain ⟨ts, rs, k, k', hT, hR, e1, e2⟩ := L₁.lens
  refine z_append F₁ N₁ hR (by lia) fun h₂ tk₂ F₂ N₂ => ?_
  obtain ⟨L₂, K₂⟩ := L₁.pushR N₁ hR (Apart.tup (L.fresh hne) hd)
  exact hq h₂ tk₂ _ F₂ N₂ L₂ (Kp.push.trans K₂)
theorem m_appT {pl : Sem Bool} {Q : Value × List Value → Shared → Prop} (N : News g c.L h news) (L : LexS A a cs i tk fl news) (hq : Q (.builtin "list.append", [.ref a.T]) (st s h tk')) : wpAny W.M c.A (getMethod (.ref a.T) "append" pl) Q E (st s h tk') := by
  obtain ⟨ts, rs, k, k', hT, hR, e1, e2⟩ := L.lens
  exact z_mapp N hT hq
theorem m_appR {pl : Sem Bool} {Q : Value × List Value → Shared → Prop} (N : News g c.L h news) (L : LexS A a cs i tk fl news) (hq : Q (.builtin "list.append", [.ref a.R]) (st s h tk')) : wpAny W.M c.A (getMethod (.ref a.R) "append" pl) Q E (st s h tk') := by
  obtain ⟨ts, rs, k, k', hT, hR, e1, e2⟩ := L.lens
  exact z_mapp N hR hq
theorem z_aRows {x : Str} {xp pos : Pos} {Q : Value → Shared → Prop} (S : Wk W base c g sc n) (F : Fr g c.L h m) (N : News g c.L h news) (k : Lc sc x) (hm : m x = some (.ref a.D)) (KF : Kf W A) (L : LexS A a cs i tk fl news)
    (hq : ∀ tk', Q (.ref a.R) (st s h tk')) : wpAny W.M c.A (eval (.Attribute (.Name x xp) "rows" pos) c.env) Q E (st s h tk') := by
  obtain ⟨es, n, h1, h2, h3⟩ := L.ddict
  exact z_attr S F N k hm KF.kDiags L.dinst h1 (by decide) h2 rfl hq
end
end Mine
end
section
open PySem PySem.W PySem.Calls PySem.Spec PyProof.Rows
set_option Elab.async false
set_option maxRecDepth 100000
namespace Mine
section
variable {W : Wd} {A : Around} {E : Value → Shared → Prop} {s : Shared} {h : Heap} {tk : Nat} {t u : Tok} {Q : Value → Shared → Prop} {a b : Nat} {M : Model} {env : Env}
theorem d_str {x : Str} {k : Nat} {pos : Pos} (hq : Q (.str x tk) (st s h (tk + 1))) : wpAny M A (eval (.Constant (.str x) k pos) env) Q E (st s h tk) := wpAny_Constant_str hq
theorem d_int {i : Int} {k : Nat} {pos : Pos} (hq : Q (.int i tk) (st s h (tk + 1))) : wpAny M A (eval (.Constant (.int i) k pos) env) Q E (st s h tk) := wpAny_Constant_int hq
theorem d_num {n k : Nat} {pos : Pos} (hq : Q (.int ((@OfNat.ofNat Nat n (instOfNatNat n) : Nat) : Int) tk) (st s h (tk + 1))) : wpAny M A (eval (.Constant (.int (@OfNat.ofNat Int n _)) k pos) env) Q E (st s h tk) := d_int hq
theorem d_add (hq : Q (.int (a + b : Nat) tk) (st s h (tk + 1))) : wpAny W.M A (binaryOp .Add (.int (a : Nat) t) (.int (b : Nat) u)) Q E (st s h tk) := wpAny_add_int (by rwa [Int.natCast_add] at hq)
theorem d_iadd (hq : Q (.int (a + b : Nat) tk) (st s h (tk + 1))) : wpAny W.M A (inplaceOp .Add (.int (a : Nat) t) (.int (b : Nat) u)) Q E (st s h tk) := wpAny_iadd_int (by rwa [Int.natCast_add] at hq)
theorem d_sub (hab : b ≤ a) (hq : Q (.int (a - b : Nat) tk) (st s h (tk + 1))) : wpAny W.M A (binaryOp .Sub (.int (a : Nat) t) (.int (b : Nat) u)) Q E (st s h tk) := P.sub_int (by rwa [Int.natCast_sub hab] at hq)
theorem d_isub (hab : b ≤ a) (hq : Q (.int (a - b : Nat) tk) (st s h (tk + 1))) : wpAny W.M A (inplaceOp .Sub (.int (a : Nat) t) (.int (b : Nat) u)) Q E (st s h tk) := P.isub_int (by rwa [Int.natCast_sub hab] at hq)
theorem d_mul (ha : a < 2 ^ 60) (hq : Q (.int (a * b : Nat) tk) (st s h (tk + 1))) : wpAny W.M A (binaryOp .Mult (.int (a : Nat) t) (.int (b : Nat) u)) Q E (st s h tk) := P.mul_int (by rwa [Int.natCast_mul] at hq) (IntMulOk.of_left (PySem.intBits_le_64 (by lia) (by lia)))
theorem d_div (ha : b < 1000000000) (hb : b ≠ 0) (hq : Q (.int (a / b : Nat) tk) (st s h (tk + 1))) : wpAny W.M A (binaryOp .FloorDiv (.int (a : Nat) t) (.int (b : Nat) u)) Q E (st s h tk) :=
  floordiv_int (by lia) (by
    rw [Int.natCast_ediv, ← Int.fdiv_eq_ediv_of_nonneg _ (by lia)] at hq
    exact hq) (.inl (noPy ha))
theorem d_mod (hb : b ≠ 0) (hq : Q (.int (a % b : Nat) tk) (st s h (tk + 1))) : wpAny W.M A (binaryOp .Mod (.int (a : Nat) t) (.int (b : Nat) u)) Q E (st s h tk) :=
  PyProof.Rows.mod_int (by lia) (by
    rw [Int.natCast_emod, ← Int.fmod_eq_emod_of_nonneg _ (by lia)] at hq
    exact hq)
theorem d_ord {c : Nat} (hq : Q (.int (c : Nat) tk) (st s h (tk + 1))) : wpAny W.M A (call (.builtin "ord") [.str (ch (some c)) t]) Q E (st s h tk) := P.ord_of_char hq
theorem d_ordS {c : Nat} (hq : Q (.int c tk) (st s h (tk + 1))) : wpAny W.M A (call (.builtin "ord") [.str (strS [c]) t]) Q E (st s h tk) := P.ord_of_char hq
theorem d_chr {c : Nat} (hc : c < 1114112) (hq : Q (.str (strS [c]) tk) (st s h (tk + 1))) : wpAny W.M A (call (.builtin "chr") [.int (c : Nat) t]) Q E (st s h tk) :=
  chr_of_range (by lia) (by lia) (by simpa using hq)
theorem d_len {cs : Cs} (hc : cs.length ≤ 100000) (hq : Q (.int (cs.length : Nat) (tk + 1)) (st s h (tk + 1 + 1))) : wpAny W.M A (call (.builtin "len") [.str (strS cs) t]) Q E (st s h tk) :=
  P.len_str (by rw [strS_len]; lia) (by rw [strS_len]; exact hq)
theorem d_item {value slice : Expr} {cs : Cs} {i c : Nat} (hi : cs[i]? = some c) (hl : cs.length ≤ 100000) (hq : Q (.str (strS [c]) tk) (st s h (tk + 1)))
    (hs : subscripted slice false (.str (strS cs) t) (.int (i : Nat) u) = operate [.str (strS cs) t, .int (i : Nat) u] (getItem (.str (strS cs) t) (.int (i : Nat) u))) :
    wpAny W.M A (subscriptTail value slice (.str (strS cs) t) (.int (i : Nat) u)) Q E (st s h tk) := by
  have hlt : i < cs.length := (List.getElem?_eq_some_iff.mp hi).1
  refine tail_any (T := "str") (typeIs_str _ _ _) PySem.F.slot_str_getitem.lookup (P.getItem_str ?_ (item_str_ch hi) hq) hs
  simp only [Bool.or_eq_false_iff, decide_eq_false_iff_not]
  lia
end
end Mine
end
local macro_rules | `(tactic| lcg_sub) => `(tactic| first | with_reducible exact Mine.Kp.refl | with_reducible assumption | (with_reducible refine Mine.Kp.trans ‹_› ?_; lcg_sub))
local macro_rules | `(tactic| tb_start) => `(tactic| first | with_reducible assumption | with_reducible exact Mine.upd_hit | (with_reducible refine Mine.upd_miss (by decide) ?_; tb_start))
section
open PySem PySem.W PySem.Calls PySem.Spec PyProof.Rows
set_option Elab.async false
set_option maxRecDepth 100000
namespace Mine
theorem lit97 : Str.ofString "a" = strS [97] := by decide
theorem lit122 : Str.ofString "z" = strS [122] := by decide
theorem lit65 : Str.ofString "A" = strS [65] := by decide
theorem lit90 : Str.ofString "Z" = strS [90] := by decide
theorem lit95 : Str.ofString "_" = strS [95] := by decide
theorem lit127 : Str.ofString "\x7f" = strS [127] := by decide
theorem lit65535 : Str.ofString "\uffff" = strS [65535] := by decide
theorem lit48 : Str.ofString "0" = strS [48] := by decide
theorem lit57 : Str.ofString "9" = strS [57] := by decide
theorem lit102 : Str.ofString "f" = strS [102] := by decide
theorem lit70 : Str.ofString "F" = strS [70] := by decide
theorem lit47 : Str.ofString "/" = strS [47] := by decide
theorem lit42 : Str.ofString "*" = strS [42] := by decide
theorem lit34 : Str.ofString "\"" = strS [34] := by decide
theorem lit39 : Str.ofString "'" = strS [39] := by decide
theorem lit64 : Str.ofString "@" = strS [64] := by decide
theorem lit46 : Str.ofString "." = strS [46] := by decide
theorem lit35 : Str.ofString "#" = strS [35] := by decide
theorem lit36 : Str.ofString "$" = strS [36] := by decide
theorem lit92 : Str.ofString "\\" = strS [92] := by decide
theorem lit120 : Str.ofString "x" = strS [120] := by decide
theorem lit88 : Str.ofString "X" = strS [88] := by decide
theorem lit98 : Str.ofString "b" = strS [98] := by decide
theorem lit66 : Str.ofString "B" = strS [66] := by decide
theorem lit101 : Str.ofString "e" = strS [101] := by decide
theorem lit69 : Str.ofString "E" = strS [69] := by decide
theorem lit43 : Str.ofString "+" = strS [43] := by decide
theorem lit45 : Str.ofString "-" = strS [45] := by decide
theorem lit117 : Str.ofString "u" = strS [117] := by decide
theorem lit85 : Str.ofString "U" = strS [85] := by decide
theorem lit108 : Str.ofString "l" = strS [108] := by decide
theorem lit76 : Str.ofString "L" = strS [76] := by decide
theorem lit62_61 : Str.ofString ">=" = strS [62, 61] := by decide
theorem lit_nil : Str.ofString "" = strS [] := by decide
theorem boot_len : bootBuiltins "len" = some (.builtin "len") := by decide +kernel
theorem boot_ord : bootBuiltins "ord" = some (.builtin "ord") := by decide +kernel
theorem boot_chr : bootBuiltins "chr" = some (.builtin "chr") := by decide +kernel
theorem boot_range : bootBuiltins "range" = some (.type "range") := by decide +kernel
section
variable {W : Wd} {A : Ad} {a : La} {base g h : Heap} {c : Cx} {sc : Scope} {n : Nat} {m : Str → Option Value} {news : Led} {s : Shared} {tk' : Nat} {E : Value → Shared → Prop} {cs : Cs} {i : Nat} {tk fl : List Dat}
theorem x_augAtK {x : Str} {xp tpos pos kp : Pos} {j kk : Nat} {rest : List Stmt} {Q : Flow → Shared → Prop} (S : Wk W base c g sc n) (F : Fr g c.L h m) (N : News g c.L h news) (k : Lc sc x) (hm : m x = some (.ref a.lx)) (KF : Kf W A) (L : LexS A a cs i tk fl news)
    (hq : ∀ h' tk' news', Fr g c.L h' m → News g c.L h' news' → LexS A a cs (i + @OfNat.ofNat Nat j (instOfNatNat j)) tk fl news' → Kp a.S news news' → wpAny W.M c.A (execs rest c.env) Q E (st s h' tk')) :
    wpAny W.M c.A (execs (.AugAssign (.Attribute (.Name x xp) "at" tpos) .Add (.Constant (.int (@OfNat.ofNat Int j _)) kk kp) pos :: rest) c.env) Q E (st s h tk') :=
  x_augAt S F N k hm KF L fun tk₁ => z_num fun t tk₂ => ⟨_, t, tk₂, rfl, rfl, hq⟩
theorem z_expr {e : Expr} {pos : Pos} {rest : List Stmt} {Q : Flow → Shared → Prop} (S : Wk W base c g sc n)
    (hq : wpAny W.M c.A (eval e c.env) (fun _ s₁ => wpAny W.M c.A (execs rest c.env) Q E s₁) E (st s h tk')) (hs : swapsWith e none pos.line c.env = pure false) :
    wpAny W.M c.A (execs (.Expr e pos :: rest) c.env) Q E (st s h tk') :=
  x_expr hq (by unfold interactive; rw [show c.env.scope = sc from S.cs, S.kind]; rfl) hs
theorem z_inC {b : Addr} {keys : List Cs} {o : Option Nat} {t : Tok} {Q : Value → Shared → Prop} (S : Wk W base c g sc n) (F : Fr g c.L h m) (hd : DicF W b keys) (hq : ∀ tk', Q (.bool (keys.contains o.toList)) (st s h tk')) :
    wpAny W.M c.A (compareOp .In (.str (ch o) t) (.ref b)) Q E (st s h tk') := z_inDic S F hd hq
theorem call_app1 {f x : Value} {vs : List Value} {M : Model} {A : Around} {Q : Value → Shared → Prop} (hq : wpAny M A (call f (x :: vs)) Q E (st s h tk')) : wpAny M A (call f ([x] ++ vs)) Q E (st s h tk') := hq
theorem dec_tt {b : Bool} {P R : Prop} (hb : b = true) (h : P) : (b = true → P) ∧ (b = false → R) := ⟨fun _ => h, fun e => absurd (hb.symm.trans e) (by decide)⟩
theorem dec_ff {b : Bool} {P R : Prop} (hb : b = false) (h : R) : (b = true → P) ∧ (b = false → R) := ⟨fun e => absurd (hb.symm.trans e) (by decide), fun _ => h⟩
theorem m_lex {f : Addr} {name : Str} {pl : Sem Bool} {Q : Value × List Value → Shared → Prop} (S : Wk W base c g sc n) (F : Fr g c.L h m) (N : News g c.L h news) (KF : Kf W A) (L : LexS A a cs i tk fl news)
    (hM : MetF W.K A.cLex name f) (hn : name ∈ lexNames) (hq : Q (.ref f, [.ref a.lx]) (st s h tk')) : wpAny W.M c.A (getMethod (.ref a.lx) name pl) Q E (st s h tk') := by
  obtain ⟨es, k, h1, h2⟩ := L.dict
  exact z_meth S F N KF.kLex hM L.inst h1 (h2.none_ _ hn) hq
theorem m_dput {pl : Sem Bool} {Q : Value × List Value → Shared → Prop} (S : Wk W base c g sc n) (F : Fr g c.L h m) (N : News g c.L h news) (KF : Kf W A) (L : LexS A a cs i tk fl news)
    (hq : Q (.ref A.dput, [.ref a.D]) (st s h tk')) : wpAny W.M c.A (getMethod (.ref a.D) "put" pl) Q E (st s h tk') := by
  obtain ⟨es, k, h1, h2, h3⟩ := L.ddict
  exact z_meth S F N KF.kDiags KF.m_dput L.dinst h1 h3 hq
end
theorem mem_here : ("here" : Str) ∈ lexNames ∧ ("peek" : Str) ∈ lexNames ∧ ("put" : Str) ∈ lexNames ∧ ("fault" : Str) ∈ lexNames := by decide

section
variable {W : Wd} {A : Ad} {a : La} {news : Led} {cs : Cs} {i : Nat} {tk fl : List Dat}
def nsO (o : Option Nat) : Bool := o.any nameStart
theorem ct_is_name_start (KF : Kf W A) {t : Tok} {o : Option Nat} : Ct W A.is_name_start [.str (ch o) t] 1 news (fun r l => l = news ∧ r = .bool (nsO o)) := by
  with_reducible refine enter KF.d_is_name_start.fn (fun _ _ _ _ _ _ => by kernel_rfl) (locs (by kernel_rfl)) (by kernel_rfl) (by kernel_rfl) (by kernel_rfl) (of_decide_eq_true (by kernel_rfl)) ?_
  intro c base g m s h tk₀ S F N hm
  have hm_c : m ("c" : Str) = some _ := (hm _).trans rfl
  clear hm
  have kl_c : Lc (dScope (defAt 24)) "c" := ⟨by kernel_rfl, by kernel_rfl⟩
  show wpAny _ _ (execs (_ :: _) _) _ _ _
  focus with_reducible
   refine x_if ?_
   refine t_or ?_
   refine t_cmp2 ?_
   refine d_str ?_
   refine z_local ‹_› ‹_› ‹_› (by tb_start) ?_
   refine z_lec lit97 ?_
   refine Exists.intro _ (And.intro rfl ?_)
   refine And.intro (fun _ => ?_) (fun _ => ?_)
   refine d_str ?_
   refine z_cle lit122 ?_
   refine Exists.intro _ (And.intro rfl ?_)
   refine And.intro (fun _ => ?_) (fun _ => ?_)
   refine both_tt ?_
   refine x_app ?_
   refine x_ret ?_
   refine z_bool ?_
   refine z_done ‹_› ‹_› ?_
   rotate_left
   refine t_or ?_
   refine t_cmp2 ?_
   refine d_str ?_
   refine z_local ‹_› ‹_› ‹_› (by tb_start) ?_
   refine z_lec lit65 ?_
   refine Exists.intro _ (And.intro rfl ?_)
   refine And.intro (fun _ => ?_) (fun _ => ?_)
   refine d_str ?_
   refine z_cle lit90 ?_
   refine Exists.intro _ (And.intro rfl ?_)
   refine And.intro (fun _ => ?_) (fun _ => ?_)
   refine both_tt ?_
   refine x_app ?_
   refine x_ret ?_
   refine z_bool ?_
   refine z_done ‹_› ‹_› ?_
   rotate_left
   refine t_or ?_
   refine t_cmp ?_
   refine z_local ‹_› ‹_› ‹_› (by tb_start) ?_
   refine d_str ?_
   refine z_eqc lit95 ?_
   refine Exists.intro _ (And.intro rfl ?_)
   refine And.intro (fun _ => ?_) (fun _ => ?_)
   refine both_tt ?_
   refine x_app ?_
   refine x_ret ?_
   refine z_bool ?_
   refine z_done ‹_› ‹_› ?_
   rotate_left
   refine PyProof.Rows.isTrue_or_nil ?_
   refine both_ff ?_
   refine x_app0 ?_
   refine x_ret ?_
   refine v_and ?_
   refine v_cmp2 ?_
   refine d_str ?_
   refine z_local ‹_› ‹_› ‹_› (by tb_start) ?_
   refine z_ltc lit127 ?_
   refine Exists.intro _ (And.intro rfl ?_)
   refine And.intro (fun _ => ?_) (fun _ => ?_)
   refine d_str ?_
   refine z_cle lit65535 ?_
   refine Exists.intro _ (And.intro rfl ?_)
   refine And.intro (fun _ => ?_) (fun _ => ?_)
   refine v_one ?_
   refine PyProof.Rows.MethodCall_ ?_ (by k_dflt exact rfl)
   refine z_local ‹_› ‹_› ‹_› (by tb_start) ?_
   refine GM.isalpha ?_
   refine PyProof.Rows.callWith_method0 ?_
   refine z_isalpha ?_
   refine z_done ‹_› ‹_› ?_
   rotate_left
   refine z_done ‹_› ‹_› ?_
   rotate_left
   refine Exists.intro _ (And.intro rfl ?_)
   refine both_ff ?_
   refine z_done ‹_› ‹_› ?_
   rotate_left
   refine both_ff ?_
   refine t_or ?_
   refine t_cmp ?_
   refine z_local ‹_› ‹_› ‹_› (by tb_start) ?_
   refine d_str ?_
   refine z_eqc lit95 ?_
   refine Exists.intro _ (And.intro rfl ?_)
   refine And.intro (fun _ => ?_) (fun _ => ?_)
   refine both_tt ?_
   refine x_app ?_
   refine x_ret ?_
   refine z_bool ?_
   refine z_done ‹_› ‹_› ?_
   rotate_left
   refine PyProof.Rows.isTrue_or_nil ?_
   refine both_ff ?_
   refine x_app0 ?_
   refine x_ret ?_
   refine v_and ?_
   refine v_cmp2 ?_
   refine d_str ?_
   refine z_local ‹_› ‹_› ‹_› (by tb_start) ?_
   refine z_ltc lit127 ?_
   refine Exists.intro _ (And.intro rfl ?_)
   refine And.intro (fun _ => ?_) (fun _ => ?_)
   refine d_str ?_
   refine z_cle lit65535 ?_
   refine Exists.intro _ (And.intro rfl ?_)
   refine And.intro (fun _ => ?_) (fun _ => ?_)
   refine v_one ?_
   refine PyProof.Rows.MethodCall_ ?_ (by k_dflt exact rfl)
   refine z_local ‹_› ‹_› ‹_› (by tb_start) ?_
   refine GM.isalpha ?_
   refine PyProof.Rows.callWith_method0 ?_
   refine z_isalpha ?_
   refine z_done ‹_› ‹_› ?_
   rotate_left
   refine z_done ‹_› ‹_› ?_
   rotate_left
   refine Exists.intro _ (And.intro rfl ?_)
   refine both_ff ?_
   refine z_done ‹_› ‹_› ?_
   rotate_left
   refine both_ff ?_
   refine t_or ?_
   refine t_cmp2 ?_
   refine d_str ?_
   refine z_local ‹_› ‹_› ‹_› (by tb_start) ?_
   refine z_lec lit65 ?_
   refine Exists.intro _ (And.intro rfl ?_)
   refine And.intro (fun _ => ?_) (fun _ => ?_)
   refine d_str ?_
   refine z_cle lit90 ?_
   refine Exists.intro _ (And.intro rfl ?_)
   refine And.intro (fun _ => ?_) (fun _ => ?_)
   refine both_tt ?_
   refine x_app ?_
   refine x_ret ?_
   refine z_bool ?_
   refine z_done ‹_› ‹_› ?_
   rotate_left
   refine t_or ?_
   refine t_cmp ?_
   refine z_local ‹_› ‹_› ‹_› (by tb_start) ?_
   refine d_str ?_
   refine z_eqc lit95 ?_
   refine Exists.intro _ (And.intro rfl ?_)
   refine And.intro (fun _ => ?_) (fun _ => ?_)
   refine both_tt ?_
   refine x_app ?_
   refine x_ret ?_
   refine z_bool ?_
   refine z_done ‹_› ‹_› ?_
   rotate_left
   refine PyProof.Rows.isTrue_or_nil ?_
   refine both_ff ?_
   refine x_app0 ?_
   refine x_ret ?_
   refine v_and ?_
   refine v_cmp2 ?_
   refine d_str ?_
   refine z_local ‹_› ‹_› ‹_› (by tb_start) ?_
   refine z_ltc lit127 ?_
   refine Exists.intro _ (And.intro rfl ?_)
   refine And.intro (fun _ => ?_) (fun _ => ?_)
   refine d_str ?_
   refine z_cle lit65535 ?_
   refine Exists.intro _ (And.intro rfl ?_)
   refine And.intro (fun _ => ?_) (fun _ => ?_)
   refine v_one ?_
   refine PyProof.Rows.MethodCall_ ?_ (by k_dflt exact rfl)
   refine z_local ‹_› ‹_› ‹_› (by tb_start) ?_
   refine GM.isalpha ?_
   refine PyProof.Rows.callWith_method0 ?_
   refine z_isalpha ?_
   refine z_done ‹_› ‹_› ?_
   rotate_left
   refine z_done ‹_› ‹_› ?_
   rotate_left
   refine Exists.intro _ (And.intro rfl ?_)
   refine both_ff ?_
   refine z_done ‹_› ‹_› ?_
   rotate_left
   refine both_ff ?_
   refine t_or ?_
   refine t_cmp ?_
   refine z_local ‹_› ‹_› ‹_› (by tb_start) ?_
   refine d_str ?_
   refine z_eqc lit95 ?_
   refine Exists.intro _ (And.intro rfl ?_)
   refine And.intro (fun _ => ?_) (fun _ => ?_)
   refine both_tt ?_
   refine x_app ?_
   refine x_ret ?_
   refine z_bool ?_
   refine z_done ‹_› ‹_› ?_
   rotate_left
   refine PyProof.Rows.isTrue_or_nil ?_
   refine both_ff ?_
   refine x_app0 ?_
   refine x_ret ?_
   refine v_and ?_
   refine v_cmp2 ?_
   refine d_str ?_
   refine z_local ‹_› ‹_› ‹_› (by tb_start) ?_
   refine z_ltc lit127 ?_
   refine Exists.intro _ (And.intro rfl ?_)
   refine And.intro (fun _ => ?_) (fun _ => ?_)
   refine d_str ?_
   refine z_cle lit65535 ?_
   refine Exists.intro _ (And.intro rfl ?_)
   refine And.intro (fun _ => ?_) (fun _ => ?_)
   refine v_one ?_
   refine PyProof.Rows.MethodCall_ ?_ (by k_dflt exact rfl)
   refine z_local ‹_› ‹_› ‹_› (by tb_start) ?_
   refine GM.isalpha ?_
   refine PyProof.Rows.callWith_method0 ?_
   refine z_isalpha ?_
   refine z_done ‹_› ‹_› ?_
   rotate_left
   refine z_done ‹_› ‹_› ?_
   rotate_left
   refine Exists.intro _ (And.intro rfl ?_)
   refine both_ff ?_
   refine z_done ‹_› ‹_› ?_
   rotate_left
  all_goals refine ⟨rfl, congrArg _ ?_⟩
  all_goals (cases o <;> simp_all [nsO, nameStart, isAZ, geO, leO, gtO, Option.any, Option.all])
  all_goals first | lia | trace_state
theorem ch_nil {o : Option Nat} (h : o = none) {t : Tok} : Value.str (Str.ofString "") t = Value.str (ch o) t := by rw [h, lit_nil]; rfl
theorem ct_here (KF : Kf W A) (L : LexS A a cs i tk fl news) (hl : cs.length ≤ 100000) : Ct W A.here [.ref a.lx] 1 news (fun r l => l = news ∧ ∃ t, r = .str (ch cs[i]?) t) := by
  with_reducible refine enter KF.d_here.fn (fun _ _ _ _ _ _ => by kernel_rfl) (locs (by kernel_rfl)) (by kernel_rfl) (by kernel_rfl) (by kernel_rfl) (of_decide_eq_true (by kernel_rfl)) ?_
  intro c base g m s h tk₀ S F N hm
  have hm_self : m ("self" : Str) = some _ := (hm _).trans rfl
  clear hm
  have kl_self : Lc (dScope (metAt 21 1)) "self" := ⟨by kernel_rfl, by kernel_rfl⟩
  have kg_len : Gb (dScope (metAt 21 1)) "len" := ⟨by kernel_rfl, by kernel_rfl⟩
  show wpAny _ _ (execs (_ :: _) _) _ _ _
  focus with_reducible
   refine x_if ?_
   refine t_cmp ?_
   refine z_aAt ‹_› ‹_› ‹_› ‹_› (by tb_start) ‹_› ‹_› ?_; intro _ _
   refine v_call ?_
   refine z_builtin ‹_› ‹_› ‹_› (Kf.b_len ‹_›) boot_len (by decide) ?_
   refine PyProof.Rows.callWith_builtin1 ?_ (by k_dflt exact rfl) (by k_dflt exact rfl)
   refine z_args ?_ (by k_dflt exact rfl)
   refine z_aText ‹_› ‹_› ‹_› ‹_› (by tb_start) ‹_› ‹_› ?_; intro _ _
   refine z_args0 ?_
   refine d_len ‹_› ?_
   refine n_ge ?_
   refine Exists.intro _ (And.intro rfl ?_)
   refine And.intro (fun _ => ?_) (fun _ => ?_)
   refine x_app ?_
   refine x_ret ?_
   refine d_str ?_
   refine z_done ‹_› ‹_› ?_
   rotate_left
   refine x_app0 ?_
   refine x_ret ?_
   refine PyProof.Rows.Subscript_ ?_
   refine z_aText ‹_› ‹_› ‹_› ‹_› (by tb_start) ‹_› ‹_› ?_; intro _ _
   refine z_aAt ‹_› ‹_› ‹_› ‹_› (by tb_start) ‹_› ‹_› ?_; intro _ _
   rotate_left
  · rename_i q
    exact ⟨rfl, _, ch_nil (List.getElem?_eq_none (of_decide_eq_true q))⟩
  · rename_i q _ _ _ _
    have hlt : i < cs.length := Nat.lt_of_not_le (of_decide_eq_false q)
    have e := List.getElem?_eq_getElem hlt
    with_reducible refine n_item e hl (fun t tk' => z_done F N ⟨rfl, t, ?_⟩) (by with_unfolding_all rfl)
    rw [e]; rfl
theorem ct_peek (KF : Kf W A) (L : LexS A a cs i tk fl news) (hl : cs.length ≤ 100000) {j : Nat} {u : Tok} : Ct W A.peek [.ref a.lx, .int (j : Nat) u] 1 news (fun r l => l = news ∧ ∃ t, r = .str (ch cs[i + j]?) t) := by
  with_reducible refine enter KF.d_peek.fn (fun _ _ _ _ _ _ => by kernel_rfl) (locs (by kernel_rfl)) (by kernel_rfl) (by kernel_rfl) (by kernel_rfl) (of_decide_eq_true (by kernel_rfl)) ?_
  intro c base g m s h tk₀ S F N hm
  have hm_self : m ("self" : Str) = some _ := (hm _).trans rfl
  have hm_n : m ("n" : Str) = some _ := (hm _).trans rfl
  clear hm
  have kl_self : Lc (dScope (metAt 21 2)) "self" := ⟨by kernel_rfl, by kernel_rfl⟩
  have kl_n : Lc (dScope (metAt 21 2)) "n" := ⟨by kernel_rfl, by kernel_rfl⟩
  have kg_len : Gb (dScope (metAt 21 2)) "len" := ⟨by kernel_rfl, by kernel_rfl⟩
  show wpAny _ _ (execs (_ :: _) _) _ _ _
  focus with_reducible
   refine x_if ?_
   refine t_cmp ?_
   refine PySem.wpAny_BinOp ?_
   refine z_aAt ‹_› ‹_› ‹_› ‹_› (by tb_start) ‹_› ‹_› ?_; intro _ _
   refine z_local ‹_› ‹_› ‹_› (by tb_start) ?_
   refine d_add ?_
   refine v_call ?_
   refine z_builtin ‹_› ‹_› ‹_› (Kf.b_len ‹_›) boot_len (by decide) ?_
   refine PyProof.Rows.callWith_builtin1 ?_ (by k_dflt exact rfl) (by k_dflt exact rfl)
   refine z_args ?_ (by k_dflt exact rfl)
   refine z_aText ‹_› ‹_› ‹_› ‹_› (by tb_start) ‹_› ‹_› ?_; intro _ _
   refine z_args0 ?_
   refine d_len ‹_› ?_
   refine n_ge ?_
   refine Exists.intro _ (And.intro rfl ?_)
   refine And.intro (fun _ => ?_) (fun _ => ?_)
   refine x_app ?_
   refine x_ret ?_
   refine d_str ?_
   refine z_done ‹_› ‹_› ?_
   rotate_left
   refine x_app0 ?_
   refine x_ret ?_
   refine PyProof.Rows.Subscript_ ?_
   refine z_aText ‹_› ‹_› ‹_› ‹_› (by tb_start) ‹_› ‹_› ?_; intro _ _
   refine PySem.wpAny_BinOp ?_
   refine z_aAt ‹_› ‹_› ‹_› ‹_› (by tb_start) ‹_› ‹_› ?_; intro _ _
   refine z_local ‹_› ‹_› ‹_› (by tb_start) ?_
   refine d_add ?_
   rotate_left
  · rename_i q
    exact ⟨rfl, _, ch_nil (List.getElem?_eq_none (of_decide_eq_true q))⟩
  · rename_i q _ _ _ _
    have hlt : i + j < cs.length := Nat.lt_of_not_le (of_decide_eq_false q)
    have e := List.getElem?_eq_getElem hlt
    with_reducible refine n_item e hl (fun t tk' => z_done F N ⟨rfl, t, ?_⟩) (by with_unfolding_all rfl)
    rw [e]; rfl
theorem ct_put (KF : Kf W A) (L : LexS A a cs i tk fl news) (hz : tk.length ≤ 100000) {k at' : Int} {t1 t3 : Tok} {v : Value} {d : Dat} (hv : Apart a news v d) :
    Ct W A.put [.ref a.lx, .int k t1, v, .int at' t3] 1 news (fun r l => r = .none ∧ LexS A a cs i (tk ++ [.tuple [.int k, d, .int at']]) fl l ∧ Kp a.S news l) := by
  with_reducible refine enter KF.d_put.fn (fun _ _ _ _ _ _ => by kernel_rfl) (locs (by kernel_rfl)) (by kernel_rfl) (by kernel_rfl) (by kernel_rfl) (of_decide_eq_true (by kernel_rfl)) ?_
  intro c base g m s h tk₀ S F N hm
  have hm_self : m ("self" : Str) = some _ := (hm _).trans rfl
  have hm_sort : m ("sort" : Str) = some _ := (hm _).trans rfl
  have hm_value : m ("value" : Str) = some _ := (hm _).trans rfl
  have hm_at : m ("at" : Str) = some _ := (hm _).trans rfl
  clear hm
  have kl_self : Lc (dScope (metAt 21 3)) "self" := ⟨by kernel_rfl, by kernel_rfl⟩
  have kl_sort : Lc (dScope (metAt 21 3)) "sort" := ⟨by kernel_rfl, by kernel_rfl⟩
  have kl_value : Lc (dScope (metAt 21 3)) "value" := ⟨by kernel_rfl, by kernel_rfl⟩
  have kl_at : Lc (dScope (metAt 21 3)) "at" := ⟨by kernel_rfl, by kernel_rfl⟩
  show wpAny _ _ (execs (_ :: _) _) _ _ _
  with_reducible
   refine z_expr ‹_› ?_ (by k_dflt exact rfl)
   refine PyProof.Rows.MethodCall_ ?_ (by k_dflt exact rfl)
   refine z_aTokens ‹_› ‹_› ‹_› ‹_› (by tb_start) ‹_› ‹_› ?_; intro _
   refine m_appT ‹_› ‹_› ?_
   refine PyProof.Rows.callWith_method1 ?_ (by k_dflt exact rfl) (by k_dflt exact rfl)
   refine z_args ?_ (by k_dflt exact rfl)
   refine PyProof.Rows.Tuple_ ?_
   refine z_args ?_ (by k_dflt exact rfl)
   refine z_local ‹_› ‹_› ‹_› (by tb_start) ?_
   refine z_args ?_ (by k_dflt exact rfl)
   refine z_local ‹_› ‹_› ‹_› (by tb_start) ?_
   refine z_args ?_ (by k_dflt exact rfl)
   refine z_local ‹_› ‹_› ‹_› (by tb_start) ?_
   refine z_args0 ?_
  with_reducible refine z_tuple (vs := [.int k t1, v, .int at' t3]) (by assumption) (by assumption) (Nat.le_of_ble_eq_true rfl) fun q h₁ tk₁ F₁ N₁ hne => ?_
  have L₁ : LexS A a cs i tk fl ((q, tupOf [.int k t1, v, .int at' t3]) :: news) := L.keep fun p hp => .tail _ hp
  obtain ⟨ts, rs, k, k', hT, hR, e1, e2⟩ := L₁.lens
  with_reducible
   refine z_args0 ?_
   refine call_app1 ?_
  with_reducible refine z_append F₁ N₁ hT (by lia) fun h₂ tk₂ F₂ N₂ => ?_
  obtain ⟨L₂, K₂⟩ := L₁.pushT N₁ hT (Apart.tup (L.fresh hne) (aparts_cons Apart.int (aparts_cons hv (aparts_cons Apart.int aparts_nil))))
  with_reducible refine x_nil (z_end F₂ N₂ ?_)
  exact ⟨rfl, L₂, Kp.push.trans K₂⟩
theorem ct_dput (KF : Kf W A) (L : LexS A a cs i tk fl news) (hz : fl.length ≤ 100000) {k at' : Int} {t1 t3 : Tok} {v : Value} {d : Dat} (hv : Apart a news v d) :
    Ct W A.dput [.ref a.D, .int k t1, .int at' t3, v] 1 news (fun r l => r = .none ∧ LexS A a cs i tk (fl ++ [.tuple [.int k, .int at', d]]) l ∧ Kp a.S news l) := by
  with_reducible refine enter KF.d_dput.fn (fun _ _ _ _ _ _ => by kernel_rfl) (locs (by kernel_rfl)) (by kernel_rfl) (by kernel_rfl) (by kernel_rfl) (of_decide_eq_true (by kernel_rfl)) ?_
  intro c base g m s h tk₀ S F N hm
  have hm_self : m ("self" : Str) = some _ := (hm _).trans rfl
  have hm_number : m ("number" : Str) = some _ := (hm _).trans rfl
  have hm_at : m ("at" : Str) = some _ := (hm _).trans rfl
  have hm_words : m ("words" : Str) = some _ := (hm _).trans rfl
  clear hm
  have kl_self : Lc (dScope (metAt 47 1)) "self" := ⟨by kernel_rfl, by kernel_rfl⟩
  have kl_number : Lc (dScope (metAt 47 1)) "number" := ⟨by kernel_rfl, by kernel_rfl⟩
  have kl_at : Lc (dScope (metAt 47 1)) "at" := ⟨by kernel_rfl, by kernel_rfl⟩
  have kl_words : Lc (dScope (metAt 47 1)) "words" := ⟨by kernel_rfl, by kernel_rfl⟩
  show wpAny _ _ (execs (_ :: _) _) _ _ _
  with_reducible
   refine z_expr ‹_› ?_ (by k_dflt exact rfl)
   refine PyProof.Rows.MethodCall_ ?_ (by k_dflt exact rfl)
   refine z_aRows ‹_› ‹_› ‹_› ‹_› (by tb_start) ‹_› ‹_› ?_; intro _
   refine m_appR ‹_› ‹_› ?_
   refine PyProof.Rows.callWith_method1 ?_ (by k_dflt exact rfl) (by k_dflt exact rfl)
   refine z_args ?_ (by k_dflt exact rfl)
   refine PyProof.Rows.Tuple_ ?_
   refine z_args ?_ (by k_dflt exact rfl)
   refine z_local ‹_› ‹_› ‹_› (by tb_start) ?_
   refine z_args ?_ (by k_dflt exact rfl)
   refine z_local ‹_› ‹_› ‹_› (by tb_start) ?_
   refine z_args ?_ (by k_dflt exact rfl)
   refine z_local ‹_› ‹_› ‹_› (by tb_start) ?_
   refine z_args0 ?_
  with_reducible refine z_tuple (vs := [.int k t1, .int at' t3, v]) (by assumption) (by assumption) (Nat.le_of_ble_eq_true rfl) fun q h₁ tk₁ F₁ N₁ hne => ?_
  have L₁ : LexS A a cs i tk fl ((q, tupOf [.int k t1, .int at' t3, v]) :: news) := L.keep fun p hp => .tail _ hp
  obtain ⟨ts, rs, k, k', hT, hR, e1, e2⟩ := L₁.lens
  with_reducible
   refine z_args0 ?_
   refine call_app1 ?_
  with_reducible refine z_append F₁ N₁ hR (by lia) fun h₂ tk₂ F₂ N₂ => ?_
  obtain ⟨L₂, K₂⟩ := L₁.pushR N₁ hR (Apart.tup (L.fresh hne) (aparts_cons Apart.int (aparts_cons Apart.int (aparts_cons hv aparts_nil))))
  with_reducible refine x_nil (z_end F₂ N₂ ?_)
  exact ⟨rfl, L₂, Kp.push.trans K₂⟩
def leO2 (o : Option Nat) : Bool := o.any lineEnd
theorem ends_leO2 (o : Option Nat) : lineEndsL.contains o.toList = leO2 o := by
  cases o with
  | none => rfl
  | some c => simp [lineEndsL, leO2, lineEnd]
theorem ct_is_line_end (KF : Kf W A) {t : Tok} {o : Option Nat} : Ct W A.is_line_end [.str (ch o) t] 1 news (fun r l => l = news ∧ r = .bool (leO2 o)) := by
  with_reducible refine enter KF.d_is_line_end.fn (fun _ _ _ _ _ _ => by kernel_rfl) (locs (by kernel_rfl)) (by kernel_rfl) (by kernel_rfl) (by kernel_rfl) (of_decide_eq_true (by kernel_rfl)) ?_
  intro c base g m s h tk₀ S F N hm
  have hm_c : m ("c" : Str) = some _ := (hm _).trans rfl
  clear hm
  have kl_c : Lc (dScope (defAt 26)) "c" := ⟨by kernel_rfl, by kernel_rfl⟩
  have kg_LINE_ENDS : Gb (dScope (defAt 26)) "LINE_ENDS" := ⟨by kernel_rfl, by kernel_rfl⟩
  have gg_LINE_ENDS := KF.t_LINE_ENDS.1
  show wpAny _ _ (execs (_ :: _) _) _ _ _
  with_reducible
   refine x_ret ?_
   refine v_cmp ?_
   refine z_local ‹_› ‹_› ‹_› (by tb_start) ?_
   refine z_global ‹_› ‹_› ‹_› ‹_› ?_
  with_reducible refine z_inC S F KF.t_LINE_ENDS.2 fun tk' => z_done F N ⟨rfl, ?_⟩
  rw [ends_leO2]
def digO (o : Option Nat) : Nat := match o with
  | none => 99
  | some c => if 48 ≤ c ∧ c ≤ 57 then c - 48 else if 97 ≤ c ∧ c ≤ 102 then c - 87 else if 65 ≤ c ∧ c ≤ 70 then c - 55 else 99
theorem digO_some (c : Nat) : digO (some c) = if 48 ≤ c ∧ c ≤ 57 then c - 48 else if 97 ≤ c ∧ c ≤ 102 then c - 87 else if 65 ≤ c ∧ c ≤ 70 then c - 55 else 99 := rfl
theorem dig_end {k d : Nat} {t : Tok} (e : digO (some k) = d) : ∃ t', Value.int (d : Nat) t = Value.int (digO (some k) : Nat) t' := ⟨t, by rw [e]⟩
theorem ct_digit_of (KF : Kf W A) {t : Tok} {o : Option Nat} : Ct W A.digit_of [.str (ch o) t] 1 news (fun r l => l = news ∧ ∃ t, r = .int (digO o : Nat) t) := by
  cases o with
  | none =>
    with_reducible refine enter KF.d_digit_of.fn (fun _ _ _ _ _ _ => by kernel_rfl) (locs (by kernel_rfl)) (by kernel_rfl) (by kernel_rfl) (by kernel_rfl) (of_decide_eq_true (by kernel_rfl)) ?_
    intro c base g m s h tk₀ S F N hm
    have hm_c : m ("c" : Str) = some _ := (hm _).trans rfl
    clear hm
    have kl_c : Lc (dScope (defAt 27)) "c" := ⟨by kernel_rfl, by kernel_rfl⟩
    have kg_ord : Gb (dScope (defAt 27)) "ord" := ⟨by kernel_rfl, by kernel_rfl⟩
    show wpAny _ _ (execs (_ :: _) _) _ _ _
    with_reducible
     refine x_if ?_
     refine t_cmp2 ?_
     refine d_str ?_
     refine z_local ‹_› ‹_› ‹_› (by tb_start) ?_
     refine z_lec lit48 ?_
     refine Exists.intro _ (And.intro rfl ?_)
     refine dec_ff (by k_dflt exact rfl) ?_
     refine both_ff ?_
     refine x_app0 ?_
     refine x_if ?_
     refine t_cmp2 ?_
     refine d_str ?_
     refine z_local ‹_› ‹_› ‹_› (by tb_start) ?_
     refine z_lec lit97 ?_
     refine Exists.intro _ (And.intro rfl ?_)
     refine dec_ff (by k_dflt exact rfl) ?_
     refine both_ff ?_
     refine x_app0 ?_
     refine x_if ?_
     refine t_cmp2 ?_
     refine d_str ?_
     refine z_local ‹_› ‹_› ‹_› (by tb_start) ?_
     refine z_lec lit65 ?_
     refine Exists.intro _ (And.intro rfl ?_)
     refine dec_ff (by k_dflt exact rfl) ?_
     refine both_ff ?_
     refine x_app0 ?_
     refine x_ret ?_
     refine d_num ?_
     refine z_done ‹_› ‹_› ?_
    exact ⟨rfl, _, rfl⟩
  | some k =>
    with_reducible refine enter KF.d_digit_of.fn (fun _ _ _ _ _ _ => by kernel_rfl) (locs (by kernel_rfl)) (by kernel_rfl) (by kernel_rfl) (by kernel_rfl) (of_decide_eq_true (by kernel_rfl)) ?_
    intro c base g m s h tk₀ S F N hm
    have hm_c : m ("c" : Str) = some _ := (hm _).trans rfl
    clear hm
    have kl_c : Lc (dScope (defAt 27)) "c" := ⟨by kernel_rfl, by kernel_rfl⟩
    have kg_ord : Gb (dScope (defAt 27)) "ord" := ⟨by kernel_rfl, by kernel_rfl⟩
    show wpAny _ _ (execs (_ :: _) _) _ _ _
    focus with_reducible
     refine x_if ?_
     refine t_cmp2 ?_
     refine d_str ?_
     refine z_local ‹_› ‹_› ‹_› (by tb_start) ?_
     refine z_lec lit48 ?_
     refine Exists.intro _ (And.intro rfl ?_)
     refine And.intro (fun _ => ?_) (fun _ => ?_)
     refine d_str ?_
     refine z_cle lit57 ?_
     refine Exists.intro _ (And.intro rfl ?_)
     refine And.intro (fun _ => ?_) (fun _ => ?_)
     refine x_app ?_
     refine x_ret ?_
     refine PySem.wpAny_BinOp ?_
     refine v_call ?_
     refine z_builtin ‹_› ‹_› ‹_› (Kf.b_ord ‹_›) boot_ord (by decide) ?_
     refine PyProof.Rows.callWith_builtin1 ?_ (by k_dflt exact rfl) (by k_dflt exact rfl)
     refine z_args ?_ (by k_dflt exact rfl)
     refine z_local ‹_› ‹_› ‹_› (by tb_start) ?_
     refine z_args0 ?_
     refine d_ord ?_
     refine d_num ?_
     rotate_left
     refine x_app0 ?_
     refine x_if ?_
     refine t_cmp2 ?_
     refine d_str ?_
     refine z_local ‹_› ‹_› ‹_› (by tb_start) ?_
     refine z_lec lit97 ?_
     refine Exists.intro _ (And.intro rfl ?_)
     refine And.intro (fun _ => ?_) (fun _ => ?_)
     refine d_str ?_
     refine z_cle lit102 ?_
     refine Exists.intro _ (And.intro rfl ?_)
     refine And.intro (fun _ => ?_) (fun _ => ?_)
     refine x_app ?_
     refine x_ret ?_
     refine PySem.wpAny_BinOp ?_
     refine v_call ?_
     refine z_builtin ‹_› ‹_› ‹_› (Kf.b_ord ‹_›) boot_ord (by decide) ?_
     refine PyProof.Rows.callWith_builtin1 ?_ (by k_dflt exact rfl) (by k_dflt exact rfl)
     refine z_args ?_ (by k_dflt exact rfl)
     refine z_local ‹_› ‹_› ‹_› (by tb_start) ?_
     refine z_args0 ?_
     refine d_ord ?_
     refine d_num ?_
     rotate_left
     refine x_app0 ?_
     refine x_if ?_
     refine t_cmp2 ?_
     refine d_str ?_
     refine z_local ‹_› ‹_› ‹_› (by tb_start) ?_
     refine z_lec lit65 ?_
     refine Exists.intro _ (And.intro rfl ?_)
     refine And.intro (fun _ => ?_) (fun _ => ?_)
     refine d_str ?_
     refine z_cle lit70 ?_
     refine Exists.intro _ (And.intro rfl ?_)
     refine And.intro (fun _ => ?_) (fun _ => ?_)
     refine x_app ?_
     refine x_ret ?_
     refine PySem.wpAny_BinOp ?_
     refine v_call ?_
     refine z_builtin ‹_› ‹_› ‹_› (Kf.b_ord ‹_›) boot_ord (by decide) ?_
     refine PyProof.Rows.callWith_builtin1 ?_ (by k_dflt exact rfl) (by k_dflt exact rfl)
     refine z_args ?_ (by k_dflt exact rfl)
     refine z_local ‹_› ‹_› ‹_› (by tb_start) ?_
     refine z_args0 ?_
     refine d_ord ?_
     refine d_num ?_
     rotate_left
     refine x_app0 ?_
     refine x_ret ?_
     refine d_num ?_
     refine z_done ‹_› ‹_› ?_
     rotate_left
     refine both_ff ?_
     refine x_app0 ?_
     refine x_ret ?_
     refine d_num ?_
     refine z_done ‹_› ‹_› ?_
     rotate_left
     refine both_ff ?_
     refine x_app0 ?_
     refine x_if ?_
     refine t_cmp2 ?_
     refine d_str ?_
     refine z_local ‹_› ‹_› ‹_› (by tb_start) ?_
     refine z_lec lit65 ?_
     refine Exists.intro _ (And.intro rfl ?_)
     refine And.intro (fun _ => ?_) (fun _ => ?_)
     refine d_str ?_
     refine z_cle lit70 ?_
     refine Exists.intro _ (And.intro rfl ?_)
     refine And.intro (fun _ => ?_) (fun _ => ?_)
     refine x_app ?_
     refine x_ret ?_
     refine PySem.wpAny_BinOp ?_
     refine v_call ?_
     refine z_builtin ‹_› ‹_› ‹_› (Kf.b_ord ‹_›) boot_ord (by decide) ?_
     refine PyProof.Rows.callWith_builtin1 ?_ (by k_dflt exact rfl) (by k_dflt exact rfl)
     refine z_args ?_ (by k_dflt exact rfl)
     refine z_local ‹_› ‹_› ‹_› (by tb_start) ?_
     refine z_args0 ?_
     refine d_ord ?_
     refine d_num ?_
     rotate_left
     refine x_app0 ?_
     refine x_ret ?_
     refine d_num ?_
     refine z_done ‹_› ‹_› ?_
     rotate_left
     refine both_ff ?_
     refine x_app0 ?_
     refine x_ret ?_
     refine d_num ?_
     refine z_done ‹_› ‹_› ?_
     rotate_left
     refine both_ff ?_
     refine x_app0 ?_
     refine x_if ?_
     refine t_cmp2 ?_
     refine d_str ?_
     refine z_local ‹_› ‹_› ‹_› (by tb_start) ?_
     refine z_lec lit97 ?_
     refine Exists.intro _ (And.intro rfl ?_)
     refine And.intro (fun _ => ?_) (fun _ => ?_)
     refine d_str ?_
     refine z_cle lit102 ?_
     refine Exists.intro _ (And.intro rfl ?_)
     refine And.intro (fun _ => ?_) (fun _ => ?_)
     refine x_app ?_
     refine x_ret ?_
     refine PySem.wpAny_BinOp ?_
     refine v_call ?_
     refine z_builtin ‹_› ‹_› ‹_› (Kf.b_ord ‹_›) boot_ord (by decide) ?_
     refine PyProof.Rows.callWith_builtin1 ?_ (by k_dflt exact rfl) (by k_dflt exact rfl)
     refine z_args ?_ (by k_dflt exact rfl)
     refine z_local ‹_› ‹_› ‹_› (by tb_start) ?_
     refine z_args0 ?_
     refine d_ord ?_
     refine d_num ?_
     rotate_left
     refine x_app0 ?_
     refine x_if ?_
     refine t_cmp2 ?_
     refine d_str ?_
     refine z_local ‹_› ‹_› ‹_› (by tb_start) ?_
     refine z_lec lit65 ?_
     refine Exists.intro _ (And.intro rfl ?_)
     refine And.intro (fun _ => ?_) (fun _ => ?_)
     refine d_str ?_
     refine z_cle lit70 ?_
     refine Exists.intro _ (And.intro rfl ?_)
     refine And.intro (fun _ => ?_) (fun _ => ?_)
     refine x_app ?_
     refine x_ret ?_
     refine PySem.wpAny_BinOp ?_
     refine v_call ?_
     refine z_builtin ‹_› ‹_› ‹_› (Kf.b_ord ‹_›) boot_ord (by decide) ?_
     refine PyProof.Rows.callWith_builtin1 ?_ (by k_dflt exact rfl) (by k_dflt exact rfl)
     refine z_args ?_ (by k_dflt exact rfl)
     refine z_local ‹_› ‹_› ‹_› (by tb_start) ?_
     refine z_args0 ?_
     refine d_ord ?_
     refine d_num ?_
     rotate_left
     refine x_app0 ?_
     refine x_ret ?_
     refine d_num ?_
     refine z_done ‹_› ‹_› ?_
     rotate_left
     refine both_ff ?_
     refine x_app0 ?_
     refine x_ret ?_
     refine d_num ?_
     refine z_done ‹_› ‹_› ?_
     rotate_left
     refine both_ff ?_
     refine x_app0 ?_
     refine x_if ?_
     refine t_cmp2 ?_
     refine d_str ?_
     refine z_local ‹_› ‹_› ‹_› (by tb_start) ?_
     refine z_lec lit65 ?_
     refine Exists.intro _ (And.intro rfl ?_)
     refine And.intro (fun _ => ?_) (fun _ => ?_)
     refine d_str ?_
     refine z_cle lit70 ?_
     refine Exists.intro _ (And.intro rfl ?_)
     refine And.intro (fun _ => ?_) (fun _ => ?_)
     refine x_app ?_
     refine x_ret ?_
     refine PySem.wpAny_BinOp ?_
     refine v_call ?_
     refine z_builtin ‹_› ‹_› ‹_› (Kf.b_ord ‹_›) boot_ord (by decide) ?_
     refine PyProof.Rows.callWith_builtin1 ?_ (by k_dflt exact rfl) (by k_dflt exact rfl)
     refine z_args ?_ (by k_dflt exact rfl)
     refine z_local ‹_› ‹_› ‹_› (by tb_start) ?_
     refine z_args0 ?_
     refine d_ord ?_
     refine d_num ?_
     rotate_left
     refine x_app0 ?_
     refine x_ret ?_
     refine d_num ?_
     refine z_done ‹_› ‹_› ?_
     rotate_left
     refine both_ff ?_
     refine x_app0 ?_
     refine x_ret ?_
     refine d_num ?_
     refine z_done ‹_› ‹_› ?_
     rotate_left
    all_goals (simp only [geO, leO, Option.any, Option.all, decide_eq_true_eq, decide_eq_false_iff_not] at *)
    all_goals first
      | (with_reducible refine n_sub (by lia) fun _ _ => z_done (by assumption) (by assumption) ⟨rfl, dig_end ?_⟩)
      | (refine ⟨trivial, dig_end ?_⟩)
    all_goals (rw [digO_some]; (repeat' split) <;> lia)
end
end Mine
end
section
open PySem PySem.W PySem.Calls PySem.Spec PyProof.Rows
set_option Elab.async false
set_option maxRecDepth 100000
namespace Mine
abbrev NoE : Value → Shared → Prop := fun _ _ => False
def Turn (c : Cx) (g : Heap) (s : Shared) (J : Nat → (Str → Option Value) → Led → Prop) (n : Nat) (s' : Shared) : Prop :=
  ∃ h' tk' m' news', s' = st s h' tk' ∧ Fr g c.L h' m' ∧ News g c.L h' news' ∧ J n m' news'
def LoopE (W : Wd) (c : Cx) (g : Heap) (s : Shared) (J : Nat → (Str → Option Value) → Led → Prop) (n : Nat) (rest : List Stmt) (Q : Flow → Shared → Prop) (f : Flow) (s' : Shared) : Prop :=
  match f with
  | .next | .cont => ∃ k, k < n ∧ Turn c g s J k s'
  | .brk => wpAny W.M c.A (execs rest c.env) Q NoE s'
  | .ret v => Q (.ret v) s'
section
variable {W : Wd} {base g h : Heap} {c : Cx} {sc : Scope} {n k : Nat} {m : Str → Option Value} {news : Led} {s : Shared} {tk' : Nat} {J : Nat → (Str → Option Value) → Led → Prop} {rest : List Stmt} {Q : Flow → Shared → Prop}
theorem loop_next (F : Fr g c.L h m) (N : News g c.L h news) (hk : k < n) (hj : J k m news) : LoopE W c g s J n rest Q .next (st s h tk') := ⟨k, hk, h, tk', m, news, rfl, F, N, hj⟩
theorem loop_brk (hq : wpAny W.M c.A (execs rest c.env) Q NoE (st s h tk')) : LoopE W c g s J n rest Q .brk (st s h tk') := hq
theorem loop_ret {v : Value} (hq : Q (.ret v) (st s h tk')) : LoopE W c g s J n rest Q (.ret v) (st s h tk') := hq
theorem x_while {test : Expr} {body : List Stmt} {pos : Pos} (J : Nat → (Str → Option Value) → Led → Prop) (n : Nat) (F : Fr g c.L h m) (N : News g c.L h news) (hj : J n m news)
    (turn : ∀ n h tk' m news, Fr g c.L h m → News g c.L h news → J n m news → wpAny W.M c.A (PySem.isTrue test c.env (eval test c.env))
      (fun b s₂ => (b = true → wpAny W.M c.A (execs body c.env) (LoopE W c g s J n rest Q) NoE s₂) ∧ (b = false → wpAny W.M c.A (execs rest c.env) Q NoE s₂)) NoE (st s h tk')) :
    wpAny W.M c.A (execs (.While test body [] pos :: rest) c.env) Q NoE (st s h tk') := by
  refine wpAny_execs_cons (wpAny_While (codeAny_whileLoop (Turn c g s J) ?_ n ⟨h, tk', m, news, rfl, F, N, hj⟩))
  rintro n s' ⟨h', tk'', m', news', rfl, F', N', hj'⟩
  refine wpAny_mono (turn n h' tk'' m' news' F' N' hj') (fun b s₂ q => ?_) fun _ _ q => q.elim
  cases b with
  | false => exact wpAny_execs_nil (q.2 rfl)
  | true =>
    refine wpAny_mono (q.1 rfl) (fun f s₃ q => ?_) fun _ _ q => q.elim
    cases f <;> exact q
end

section
variable {W : Wd} {A : Ad} {a : La} {base g h : Heap} {c : Cx} {sc : Scope} {n : Nat} {m : Str → Option Value} {news : Led} {s : Shared} {tk' : Nat} {E : Value → Shared → Prop} {cs : Cs} {i : Nat} {tk fl : List Dat} {Q : Value → Shared → Prop} {t u : Tok} {o : Option Nat}
theorem u_is_name_start (S : Wk W base c g sc n) (F : Fr g c.L h m) (N : News g c.L h news) (KF : Kf W A) (hn : 1 ≤ n)
    (hq : ∀ h' tk', Fr g c.L h' m → News g c.L h' news → Q (.bool (nsO o)) (st s h' tk')) : wpAny W.M c.A (call (.ref A.is_name_start) [.str (ch o) t]) Q E (st s h tk') :=
  z_use S F N (ct_is_name_start KF) hn fun r l h' tk' F' N' p => by obtain ⟨rfl, rfl⟩ := p; exact hq h' tk' F' N'
theorem u_is_line_end (S : Wk W base c g sc n) (F : Fr g c.L h m) (N : News g c.L h news) (KF : Kf W A) (hn : 1 ≤ n)
    (hq : ∀ h' tk', Fr g c.L h' m → News g c.L h' news → Q (.bool (leO2 o)) (st s h' tk')) : wpAny W.M c.A (call (.ref A.is_line_end) [.str (ch o) t]) Q E (st s h tk') :=
  z_use S F N (ct_is_line_end KF) hn fun r l h' tk' F' N' p => by obtain ⟨rfl, rfl⟩ := p; exact hq h' tk' F' N'
theorem u_digit_of (S : Wk W base c g sc n) (F : Fr g c.L h m) (N : News g c.L h news) (KF : Kf W A) (hn : 1 ≤ n)
    (hq : ∀ t h' tk', Fr g c.L h' m → News g c.L h' news → Q (.int (digO o : Nat) t) (st s h' tk')) : wpAny W.M c.A (call (.ref A.digit_of) [.str (ch o) t]) Q E (st s h tk') :=
  z_use S F N (ct_digit_of KF) hn fun r l h' tk' F' N' p => by obtain ⟨rfl, t, rfl⟩ := p; exact hq t h' tk' F' N'
theorem u_here (S : Wk W base c g sc n) (F : Fr g c.L h m) (N : News g c.L h news) (KF : Kf W A) (L : LexS A a cs i tk fl news) (hl : cs.length ≤ 100000) (hn : 1 ≤ n) (ho : cs[i]? = o)
    (hq : ∀ t h' tk', Fr g c.L h' m → News g c.L h' news → Q (.str (ch o) t) (st s h' tk')) : wpAny W.M c.A (call (.ref A.here) [.ref a.lx]) Q E (st s h tk') :=
  z_use S F N (ct_here KF L hl) hn fun r l h' tk' F' N' p => by obtain ⟨rfl, t, rfl⟩ := p; rw [ho]; exact hq t h' tk' F' N'
theorem u_peek {j : Nat} (S : Wk W base c g sc n) (F : Fr g c.L h m) (N : News g c.L h news) (KF : Kf W A) (L : LexS A a cs i tk fl news) (hl : cs.length ≤ 100000) (hn : 1 ≤ n) (ho : cs[i + j]? = o)
    (hq : ∀ t h' tk', Fr g c.L h' m → News g c.L h' news → Q (.str (ch o) t) (st s h' tk')) : wpAny W.M c.A (call (.ref A.peek) [.ref a.lx, .int (j : Nat) u]) Q E (st s h tk') :=
  z_use S F N (ct_peek KF L hl) hn fun r l h' tk' F' N' p => by obtain ⟨rfl, t, rfl⟩ := p; rw [ho]; exact hq t h' tk' F' N'
theorem u_put {k at' : Int} {t1 t3 : Tok} {v : Value} {d : Dat} (S : Wk W base c g sc n) (F : Fr g c.L h m) (N : News g c.L h news) (KF : Kf W A) (L : LexS A a cs i tk fl news) (hz : tk.length ≤ 100000) (hn : 1 ≤ n) (hv : Apart a news v d)
    (hq : ∀ h' tk' news', Fr g c.L h' m → News g c.L h' news' → LexS A a cs i (tk ++ [.tuple [.int k, d, .int at']]) fl news' → Kp a.S news news' → Q .none (st s h' tk')) : wpAny W.M c.A (call (.ref A.put) [.ref a.lx, .int k t1, v, .int at' t3]) Q E (st s h tk') :=
  z_use S F N (ct_put KF L hz hv) hn fun r l h' tk' F' N' p => by obtain ⟨rfl, L', K'⟩ := p; exact hq h' tk' l F' N' L' K'
theorem u_dput {k at' : Int} {t1 t3 : Tok} {v : Value} {d : Dat} (S : Wk W base c g sc n) (F : Fr g c.L h m) (N : News g c.L h news) (KF : Kf W A) (L : LexS A a cs i tk fl news) (hz : fl.length ≤ 100000) (hn : 1 ≤ n) (hv : Apart a news v d)
    (hq : ∀ h' tk' news', Fr g c.L h' m → News g c.L h' news' → LexS A a cs i tk (fl ++ [.tuple [.int k, .int at', d]]) news' → Kp a.S news news' → Q .none (st s h' tk')) : wpAny W.M c.A (call (.ref A.dput) [.ref a.D, .int k t1, .int at' t3, v]) Q E (st s h tk') :=
  z_use S F N (ct_dput KF L hz hv) hn fun r l h' tk' F' N' p => by obtain ⟨rfl, L', K'⟩ := p; exact hq h' tk' l F' N' L' K'
end
end Mine
end
section
open PySem PySem.W PySem.Calls PySem.Spec PyProof.Rows
set_option Elab.async false
set_option maxRecDepth 100000
namespace Mine
section
variable {W : Wd} {base g h : Heap} {c : Cx} {sc : Scope} {n : Nat} {m : Str → Option Value} {news : Led} {s : Shared} {tk : Nat} {E : Value → Shared → Prop} {f x y : Str} {fa : Addr} {v u : Value} {fp xp yp pos : Pos} {e e' : Expr} {Q : Value → Shared → Prop}
theorem e_call1 (S : Wk W base c g sc n) (F : Fr g c.L h m) (kf : Gb sc f) (hf : nsIn W.K mainGlobals f = some (some (.ref fa))) (hk : keepIn W.K (.ref fa) = true) (kx : Lc sc x) (hx : m x = some v)
    (hq : wpAny W.M c.A (call (.ref fa) [v]) Q E (st s h tk)) : wpAny W.M c.A (eval (.Call (.Name f fp) [.Name x xp] [] pos) c.env) Q E (st s h tk) :=
  v_call (z_global S F kf hf (z_call S hk (z_args (z_local S F kx hx (z_args0 ⟨⟨m, F⟩, hq⟩)) rfl) rfl rfl))
theorem e_call2 (S : Wk W base c g sc n) (F : Fr g c.L h m) (kf : Gb sc f) (hf : nsIn W.K mainGlobals f = some (some (.ref fa))) (hk : keepIn W.K (.ref fa) = true) (kx : Lc sc x) (hx : m x = some v) (ky : Lc sc y) (hy : m y = some u)
    (hq : wpAny W.M c.A (call (.ref fa) [v, u]) Q E (st s h tk)) : wpAny W.M c.A (eval (.Call (.Name f fp) [.Name x xp, .Name y yp] [] pos) c.env) Q E (st s h tk) :=
  v_call (z_global S F kf hf (z_call S hk (z_args (z_local S F kx hx (z_args (z_local S F ky hy (z_args0 ⟨⟨m, F⟩, hq⟩)) rfl)) rfl) rfl rfl))
theorem e_callE (S : Wk W base c g sc n) (F : Fr g c.L h m) (kf : Gb sc f) (hf : nsIn W.K mainGlobals f = some (some (.ref fa))) (hk : keepIn W.K (.ref fa) = true)
    (hq : wpAny W.M c.A (eval e c.env) (fun v s₂ => (∃ m', Fr g c.L s₂.heap m') ∧ wpAny W.M c.A (call (.ref fa) [v]) Q E s₂) E (st s h tk)) (he : starEach [e] c.env = (false, eval e c.env) :: starEach [] c.env) : wpAny W.M c.A (eval (.Call (.Name f fp) [e] [] pos) c.env) Q E (st s h tk) :=
  v_call (z_global S F kf hf (z_call S hk (args_cons (wpAny_mono hq (fun _ _ q => args_nil q) fun _ _ q => q) he) he rfl))
theorem e_callNE (S : Wk W base c g sc n) (F : Fr g c.L h m) (kf : Gb sc f) (hf : nsIn W.K mainGlobals f = some (some (.ref fa))) (hk : keepIn W.K (.ref fa) = true) (kx : Lc sc x) (hx : m x = some v)
    (hq : wpAny W.M c.A (eval e c.env) (fun u s₂ => (∃ m', Fr g c.L s₂.heap m') ∧ wpAny W.M c.A (call (.ref fa) [v, u]) Q E s₂) E (st s h tk)) (he : starEach [e] c.env = (false, eval e c.env) :: starEach [] c.env) : wpAny W.M c.A (eval (.Call (.Name f fp) [.Name x xp, e] [] pos) c.env) Q E (st s h tk) :=
  v_call (z_global S F kf hf (z_call S hk (z_args (z_local S F kx hx (args_cons (wpAny_mono hq (fun _ _ q => args_nil q) fun _ _ q => q) he)) rfl) rfl (by rw [show backTo pos (starEach [e] c.env) = backTo pos ((false, eval e c.env) :: starEach [] c.env) from by rw [he]]; rfl)))
theorem e_built {id : String} (S : Wk W base c g sc n) (F : Fr g c.L h m) (k : Gb sc f) (hn : nsIn W.K mainGlobals f = some none) (hv : bootBuiltins f = some (.builtin id)) (hne : f ≠ "__name__")
    (hq : wpAny W.M c.A (eval e c.env) (fun v s₂ => wpAny W.M c.A (call (.builtin id) [v]) Q E s₂) E (st s h tk)) (he : starEach [e] c.env = (false, eval e c.env) :: starEach [] c.env) : wpAny W.M c.A (eval (.Call (.Name f fp) [e] [] pos) c.env) Q E (st s h tk) :=
  v_call (z_builtin S F k hn hv hne (PyProof.Rows.callWith_builtin1 (args_cons (wpAny_mono hq (fun _ _ q => args_nil q) fun _ _ q => q) he) he rfl))
theorem e_binN {op : Operator} {i kk : Nat} (S : Wk W base c g sc n) (F : Fr g c.L h m) (kx : Lc sc x) (hx : m x = some v) (hq : wpAny W.M c.A (binaryOp op v (.int ((@OfNat.ofNat Nat i (instOfNatNat i) : Nat) : Int) tk)) Q E (st s h (tk + 1))) :
    wpAny W.M c.A (eval (.BinOp (.Name x xp) op (.Constant (.int (@OfNat.ofNat Int i _)) kk yp) pos) c.env) Q E (st s h tk) := PySem.wpAny_BinOp (z_local S F kx hx (d_num hq))
theorem e_binNN {op : Operator} (S : Wk W base c g sc n) (F : Fr g c.L h m) (kx : Lc sc x) (hx : m x = some v) (ky : Lc sc y) (hy : m y = some u) (hq : wpAny W.M c.A (binaryOp op v u) Q E (st s h tk)) :
    wpAny W.M c.A (eval (.BinOp (.Name x xp) op (.Name y yp) pos) c.env) Q E (st s h tk) := PySem.wpAny_BinOp (z_local S F kx hx (z_local S F ky hy hq))
section
variable {whole : Sem Value} {Q : Bool → Shared → Prop}
theorem t_cmpN {op : CmpOp} {i kk : Nat} (S : Wk W base c g sc n) (F : Fr g c.L h m) (kx : Lc sc x) (hx : m x = some v) (hq : wpAny W.M c.A (compareOp op v (.int ((@OfNat.ofNat Nat i (instOfNatNat i) : Nat) : Int) tk)) (fun c s₃ => ∃ k, c = .bool k ∧ Q k s₃) E (st s h (tk + 1)))
    (hm : behindInMarks op (.Constant (.int (@OfNat.ofNat Int i _)) kk yp) = false) : wpAny W.M c.A (isTrue (.Compare (.Name x xp) [op] [.Constant (.int (@OfNat.ofNat Int i _)) kk yp] pos) c.env whole) Q E (st s h tk) := t_cmp (z_local S F kx hx (d_num hq)) hm
theorem t_cmpS {op : CmpOp} {z : Str} {kk : Nat} (S : Wk W base c g sc n) (F : Fr g c.L h m) (kx : Lc sc x) (hx : m x = some v) (hq : wpAny W.M c.A (compareOp op v (.str z tk)) (fun c s₃ => ∃ k, c = .bool k ∧ Q k s₃) E (st s h (tk + 1)))
    (hm : behindInMarks op (.Constant (.str z) kk yp) = false) : wpAny W.M c.A (isTrue (.Compare (.Name x xp) [op] [.Constant (.str z) kk yp] pos) c.env whole) Q E (st s h tk) := t_cmp (z_local S F kx hx (d_str hq)) hm
theorem t_cmpNN {op : CmpOp} (S : Wk W base c g sc n) (F : Fr g c.L h m) (kx : Lc sc x) (hx : m x = some v) (ky : Lc sc y) (hy : m y = some u) (hq : wpAny W.M c.A (compareOp op v u) (fun c s₃ => ∃ k, c = .bool k ∧ Q k s₃) E (st s h tk))
    (hm : behindInMarks op (.Name y yp) = false) : wpAny W.M c.A (isTrue (.Compare (.Name x xp) [op] [.Name y yp] pos) c.env whole) Q E (st s h tk) := t_cmp (z_local S F kx hx (z_local S F ky hy hq)) hm
end
end
abbrev MCall (x : Str) (xp : Pos) (name : Str) (ap pos : Pos) (args : List Expr) (env : Env) (pl : Sem Bool) : Prop :=
  eval (.Call (.Attribute (.Name x xp) name ap) args [] pos) env = (do
    let ov ← eval (.Name x xp) env
    standAt ap.atName
    let (f, first) ← holding [ov] (getMethod ov name pl)
    callWith pos f first (backTo pos (starEach args env)) [])
section
variable {W : Wd} {A : Ad} {a : La} {base g h : Heap} {c : Cx} {sc : Scope} {n : Nat} {m : Str → Option Value} {news : Led} {s : Shared} {tk' : Nat} {E : Value → Shared → Prop} {cs : Cs} {i : Nat} {tk fl : List Dat} {x f : Str} {fa : Addr} {fp xp ap yp hp pos : Pos} {o : Option Nat} {pl : Sem Bool} {Q : Value → Shared → Prop}
theorem e_here (S : Wk W base c g sc n) (F : Fr g c.L h m) (N : News g c.L h news) (KF : Kf W A) (L : LexS A a cs i tk fl news) (hl : cs.length ≤ 100000) (hn : 1 ≤ n) (ho : cs[i]? = o) (kx : Lc sc x) (hx : m x = some (.ref a.lx))
    (hq : ∀ t h' tk', Fr g c.L h' m → News g c.L h' news → Q (.str (ch o) t) (st s h' tk')) (he : MCall x xp "here" ap pos [] c.env pl) : wpAny W.M c.A (eval (.Call (.Attribute (.Name x xp) "here" ap) [] [] pos) c.env) Q E (st s h tk') :=
  PyProof.Rows.MethodCall_ (z_local S F kx hx (m_lex S F N KF L KF.m_here mem_here.1 (z_mcall0 S F KF.d_here.keep (u_here S F N KF L hl hn ho hq)))) he
theorem e_peek {j kk : Nat} (S : Wk W base c g sc n) (F : Fr g c.L h m) (N : News g c.L h news) (KF : Kf W A) (L : LexS A a cs i tk fl news) (hl : cs.length ≤ 100000) (hn : 1 ≤ n) (ho : cs[i + (@OfNat.ofNat Nat j (instOfNatNat j))]? = o) (kx : Lc sc x) (hx : m x = some (.ref a.lx))
    (hq : ∀ t h' tk', Fr g c.L h' m → News g c.L h' news → Q (.str (ch o) t) (st s h' tk')) (he : MCall x xp "peek" ap pos [.Constant (.int (@OfNat.ofNat Int j _)) kk yp] c.env pl) : wpAny W.M c.A (eval (.Call (.Attribute (.Name x xp) "peek" ap) [.Constant (.int (@OfNat.ofNat Int j _)) kk yp] [] pos) c.env) Q E (st s h tk') :=
  PyProof.Rows.MethodCall_ (z_local S F kx hx (m_lex S F N KF L KF.m_peek mem_here.2.1 (z_mcall S KF.d_peek.keep (z_args (d_num (z_args0 ⟨⟨m, F⟩, u_peek S F N KF L hl hn ho hq⟩)) rfl) rfl rfl))) he
theorem e_callH (S : Wk W base c g sc n) (F : Fr g c.L h m) (N : News g c.L h news) (KF : Kf W A) (L : LexS A a cs i tk fl news) (hl : cs.length ≤ 100000) (hn : 1 ≤ n) (ho : cs[i]? = o) (kx : Lc sc x) (hx : m x = some (.ref a.lx))
    (kf : Gb sc f) (hf : nsIn W.K mainGlobals f = some (some (.ref fa))) (hk : keepIn W.K (.ref fa) = true)
    (hq : ∀ t h' tk', Fr g c.L h' m → News g c.L h' news → wpAny W.M c.A (call (.ref fa) [.str (ch o) t]) Q E (st s h' tk')) (he : MCall x xp "here" ap hp [] c.env pl) : wpAny W.M c.A (eval (.Call (.Name f fp) [.Call (.Attribute (.Name x xp) "here" ap) [] [] hp] [] pos) c.env) Q E (st s h tk') :=
  e_callE S F kf hf hk (e_here S F N KF L hl hn ho kx hx (fun t h' tk' F' N' => ⟨⟨m, F'⟩, hq t h' tk' F' N'⟩) he) rfl
section
variable {whole : Sem Value} {Q : Bool → Shared → Prop}
theorem t_here {op : CmpOp} {z : Str} {kk : Nat} (S : Wk W base c g sc n) (F : Fr g c.L h m) (N : News g c.L h news) (KF : Kf W A) (L : LexS A a cs i tk fl news) (hl : cs.length ≤ 100000) (hn : 1 ≤ n) (ho : cs[i]? = o) (kx : Lc sc x) (hx : m x = some (.ref a.lx))
    (hq : ∀ t h' tk', Fr g c.L h' m → News g c.L h' news → wpAny W.M c.A (compareOp op (.str (ch o) t) (.str z tk')) (fun c s₃ => ∃ k, c = .bool k ∧ Q k s₃) E (st s h' (tk' + 1)))
    (hm : behindInMarks op (.Constant (.str z) kk yp) = false) (he : MCall x xp "here" ap hp [] c.env pl) : wpAny W.M c.A (isTrue (.Compare (.Call (.Attribute (.Name x xp) "here" ap) [] [] hp) [op] [.Constant (.str z) kk yp] pos) c.env whole) Q E (st s h tk') :=
  t_cmp (e_here S F N KF L hl hn ho kx hx (fun t h' tk' F' N' => d_str (hq t h' tk' F' N')) he) hm
theorem t_peek {op : CmpOp} {z : Str} {j kk k2 : Nat} {zp : Pos} (S : Wk W base c g sc n) (F : Fr g c.L h m) (N : News g c.L h news) (KF : Kf W A) (L : LexS A a cs i tk fl news) (hl : cs.length ≤ 100000) (hn : 1 ≤ n) (ho : cs[i + (@OfNat.ofNat Nat j (instOfNatNat j))]? = o) (kx : Lc sc x) (hx : m x = some (.ref a.lx))
    (hq : ∀ t h' tk', Fr g c.L h' m → News g c.L h' news → wpAny W.M c.A (compareOp op (.str (ch o) t) (.str z tk')) (fun c s₃ => ∃ k, c = .bool k ∧ Q k s₃) E (st s h' (tk' + 1)))
    (hm : behindInMarks op (.Constant (.str z) kk yp) = false) (he : MCall x xp "peek" ap hp [.Constant (.int (@OfNat.ofNat Int j _)) k2 zp] c.env pl) : wpAny W.M c.A (isTrue (.Compare (.Call (.Attribute (.Name x xp) "peek" ap) [.Constant (.int (@OfNat.ofNat Int j _)) k2 zp] [] hp) [op] [.Constant (.str z) kk yp] pos) c.env whole) Q E (st s h tk') :=
  t_cmp (e_peek S F N KF L hl hn ho kx hx (fun t h' tk' F' N' => d_str (hq t h' tk' F' N')) he) hm
end
end
end Mine
end
section
open PySem PySem.W PySem.Calls PySem.Spec PyProof.Rows
set_option Elab.async false
set_option maxRecDepth 100000
namespace Mine
theorem find_at {cs r : Cs} {c lo j : Nat} (h1 : lo ≤ j) (hj : (cs.drop j).take (r.length + 1) = c :: r) (hn : ∀ k, lo ≤ k → k < j → cs[k]? ≠ some c) :
    Txt.find3 (strS cs) (strS (c :: r)) (lo : Int) = (j : Int) := by
  have hl : (strS cs).length = cs.length := strS_len cs
  have hy : (strS (c :: r)).length = r.length + 1 := by rw [strS_len]; rfl
  have hlen : j + (r.length + 1) ≤ cs.length := by
    have := congrArg List.length hj
    simp only [List.length_take, List.length_drop, List.length_cons] at this
    lia
  have hf : PySem.fromIndex (strS cs).length (lo : Int) = lo := by
    rw [hl]
    unfold PySem.fromIndex
    simp only [show ¬ ((lo : Int) < 0) by lia, if_false]
    lia
  unfold Txt.find3
  rw [hf]
  have hat : StrLaws.At (strS cs) (strS (c :: r)) (strS cs).length j := by
    refine ⟨by rw [hl, hy]; lia, ?_⟩
    rw [StrLaws.subAt_eq, strS_list, strS_list, hy, hj]
    simp
  rcases StrLaws.occ_head_from (strS cs) (strS (c :: r)) lo 1 (Nat.le_refl 1) with ⟨h0, hno⟩ | ⟨k, rr, h0, hlo, hk, hno⟩
  · exact absurd hat (hno j h1)
  · rw [h0]
    dsimp only
    have hkj : k ≤ j := Nat.le_of_not_lt fun q => hno j h1 q hat
    rcases Nat.lt_or_eq_of_le hkj with q | q
    · exfalso
      have h2 := hk.2
      rw [StrLaws.subAt_eq, strS_list, strS_list, hy] at h2
      have h3 := beq_iff_eq.mp h2
      have h4 : (List.take (r.length + 1) (List.drop k cs))[0]? = some c := by rw [h3]; rfl
      rw [List.getElem?_take] at h4
      simp only [Nat.zero_lt_succ, if_true, List.getElem?_drop, Nat.add_zero] at h4
      exact hn k hlo q h4
    · rw [q]
section
variable {W : Wd} {A : Around} {E : Value → Shared → Prop} {s : Shared} {h : Heap} {tk : Nat} {t u v : Tok} {Q : Value → Shared → Prop}
theorem z_find {cs r : Cs} {c lo j : Nat} {y : Str} (hy : y = strS (c :: r)) (h1 : lo ≤ j) (hj : (cs.drop j).take (r.length + 1) = c :: r) (hn : ∀ k, lo ≤ k → k < j → cs[k]? ≠ some c)
    (hq : ∀ t tk', Q (.int (j : Nat) t) (st s h tk')) : wpAny W.M A (call (.builtin "str.find") [.str (strS cs) t, .str y u, .int (lo : Nat) v]) Q E (st s h tk) :=
  SC.find3 (by rw [hy, find_at h1 hj hn]; exact hq _ _)
theorem d_find {cs r : Cs} {c lo j : Nat} {y : Str} (hy : y = strS (c :: r)) (h1 : lo ≤ j) (hj : (cs.drop j).take (r.length + 1) = c :: r) (hn : ∀ k, lo ≤ k → k < j → cs[k]? ≠ some c)
    (hq : Q (.int (j : Nat) tk) (st s h (tk + 1))) : wpAny W.M A (call (.builtin "str.find") [.str (strS cs) t, .str y u, .int (lo : Nat) v]) Q E (st s h tk) :=
  SC.find3 (by rw [hy, find_at h1 hj hn]; exact hq)
end
theorem lit42_47 : Str.ofString "*/" = strS [42, 47] := by decide
theorem take1 {cs : Cs} {j c : Nat} (h : cs[j]? = some c) : (cs.drop j).take 1 = [c] := by
  have hlt : j < cs.length := (List.getElem?_eq_some_iff.mp h).1
  rw [List.drop_eq_getElem_cons hlt]
  have : cs[j] = c := (List.getElem?_eq_some_iff.mp h).2
  simp [this]
theorem take2 {cs : Cs} {j c d : Nat} (h : cs[j]? = some c) (h' : cs[j + 1]? = some d) : (cs.drop j).take 2 = [c, d] := by
  have hlt : j < cs.length := (List.getElem?_eq_some_iff.mp h).1
  rw [List.drop_eq_getElem_cons hlt]
  have : cs[j] = c := (List.getElem?_eq_some_iff.mp h).2
  rw [List.take_succ_cons, take1 h', this]
end Mine
end
section
open PySem PySem.W PySem.Calls PySem.Spec PyProof.Rows
set_option Elab.async false
set_option maxRecDepth 100000
namespace Mine
theorem slice_ss {cs : Cs} {i j : Nat} (h1 : i ≤ j) (h2 : j ≤ cs.length) : Txt.slice (strS cs) (some (i : Int)) (some (j : Int)) = strS ((cs.drop i).take (j - i)) := by
  have := beq_iff_eq.mp (slice_closes (x := strS cs) (i := (i : Int)) (j := (j : Int)) ⟨by lia, by lia, by rw [strS_list]; lia⟩)
  rw [this, strS_list]
  have e1 : ((i : Int)).toNat = i := by lia
  have e2 : ((j : Int) - (i : Int)).toNat = j - i := by lia
  rw [e1, e2]
theorem slice_s {cs : Cs} {i : Nat} (h1 : i ≤ cs.length) : Txt.slice (strS cs) (some (i : Int)) none = strS (cs.drop i) := by
  have := beq_iff_eq.mp (slice_closes_from (x := strS cs) (i := (i : Int)) ⟨by lia, by rw [strS_list]; lia⟩)
  rw [this, strS_list]
  have e1 : ((i : Int)).toNat = i := by lia
  rw [e1]
  congr 1
  congr 1
  refine List.take_of_length_le ?_
  rw [List.length_drop]
  lia
section
variable {W : Wd} {base g h : Heap} {c : Cx} {sc : Scope} {n : Nat} {m : Str → Option Value} {news : Led} {s : Shared} {tk : Nat} {E : Value → Shared → Prop} {t ui uj : Tok} {Q : Value → Shared → Prop}
def sliceOb (l u : Value) : Obj := { cls := .type "slice", data := .fields #[l, u, .none] }
theorem z_slice {lower upper : Option Expr} {p : Pos}
    (hq : wpAny W.M c.A (evalPart lower c.env) (fun l s₁ => wpAny W.M c.A (evalPart upper c.env) (fun u s₂ => ∃ h₂ tk₂, s₂ = st s h₂ tk₂ ∧ Q (.ref h₂.objs.size) (st s (h₂.push (sliceOb l u)) tk₂)) E s₁) E (st s h tk)) :
    wpAny W.M c.A (eval (.Slice lower upper none p) c.env) Q E (st s h tk) :=
  wpAny_Slice (wpAny_mono hq (fun l s₁ q => wpAny_mono q (fun u s₂ q => by
    obtain ⟨h₂, tk₂, rfl, q⟩ := q
    exact evalPart_none_step q) fun _ _ q => q) fun _ _ q => q)
theorem z_tail_ss {value slice : Expr} {cs : Cs} {i j : Nat} (F : Fr g c.L h m) (N : News g c.L h news) (h1 : i ≤ j) (h2 : j ≤ cs.length) (hl : cs.length ≤ 100000)
    (hs : subscripted slice false (.str (strS cs) t) (.ref h.objs.size) = operate [.ref h.objs.size, .str (strS cs) t] (getItem (.str (strS cs) t) (.ref h.objs.size)))
    (ht : ∀ r, letTemporaryGo value (.str (strS cs) t) r = pure ())
    (hq : ∀ t' h' tk', Fr g c.L h' m → News g c.L h' news → Q (.str (strS ((cs.drop i).take (j - i))) t') (st s h' tk')) :
    wpAny W.M c.A (subscriptTail value slice (.str (strS cs) t) (.ref h.objs.size)) Q E (st s (h.push (sliceOb (.int (i : Nat) ui) (.int (j : Nat) uj))) tk) :=
  slice_strN_ss (s := st s h tk) F N (fun h' t' k F' N' => by rw [slice_ss h1 h2]; exact hq t' h' k F' N') hs ht (by rw [strS_len, sizeLine_eq]; lia)
theorem z_tail_s {value slice : Expr} {cs : Cs} {i : Nat} (F : Fr g c.L h m) (N : News g c.L h news) (h1 : i ≤ cs.length) (hl : cs.length ≤ 100000)
    (hs : subscripted slice false (.str (strS cs) t) (.ref h.objs.size) = operate [.ref h.objs.size, .str (strS cs) t] (getItem (.str (strS cs) t) (.ref h.objs.size)))
    (ht : ∀ r, letTemporaryGo value (.str (strS cs) t) r = pure ())
    (hq : ∀ t' h' tk', Fr g c.L h' m → News g c.L h' news → Q (.str (strS (cs.drop i)) t') (st s h' tk')) :
    wpAny W.M c.A (subscriptTail value slice (.str (strS cs) t) (.ref h.objs.size)) Q E (st s (h.push (sliceOb (.int (i : Nat) ui) .none)) tk) :=
  slice_strN_sn (s := st s h tk) F N (fun h' t' k F' N' => by rw [slice_s h1]; exact hq t' h' k F' N') hs ht (by rw [strS_len, sizeLine_eq]; lia)
end
end Mine
end
section
open PySem PySem.W PySem.Calls PySem.Spec PyProof.Rows
set_option Elab.async false
set_option maxRecDepth 100000
namespace Mine
theorem slice_far {cs : Cs} {i j : Nat} (h1 : i ≤ cs.length) (h2 : i ≤ j) : Txt.slice (strS cs) (some (i : Int)) (some (j : Int)) = strS ((cs.drop i).take (j - i)) := by
  by_cases hj : j ≤ cs.length
  · exact slice_ss h2 hj
  · have e1 : Txt.slice (strS cs) (some (i : Int)) (some (j : Int)) = Txt.slice (strS cs) (some (i : Int)) (some ((cs.length : Nat) : Int)) := by
      unfold Txt.slice Builtin.Str.strSliceIndices
      rw [strS_len]
      have a1 : (max (0 : Int) (min (if (j : Int) < 0 then (j : Int) + (cs.length : Int) else j) (cs.length : Int))) = (cs.length : Int) := by
        rw [if_neg (by lia)]; lia
      have a2 : (max (0 : Int) (min (if ((cs.length : Nat) : Int) < 0 then ((cs.length : Nat) : Int) + (cs.length : Int) else ((cs.length : Nat) : Int)) (cs.length : Int))) = (cs.length : Int) := by
        rw [if_neg (by lia)]; lia
      simp only [a1, a2]
      rfl
    rw [e1, slice_ss h1 (Nat.le_refl _), List.take_of_length_le (by rw [List.length_drop]; lia), List.take_of_length_le (by rw [List.length_drop]; lia)]
theorem strS_nil (x : Str) : x ++ strS [] = x := by
  rw [strS_self x, strS_app, List.append_nil]
theorem nil_strS (x : Str) : strS [] ++ x = x := by
  rw [strS_self x, strS_app, List.nil_append]
section
variable {W : Wd} {base g h : Heap} {c : Cx} {sc : Scope} {n : Nat} {m : Str → Option Value} {news : Led} {s : Shared} {tk : Nat} {E : Value → Shared → Prop} {t u ui uj : Tok} {Q : Value → Shared → Prop} {A : Around}
theorem post_add {x y : Str} (hl : x.length + y.length ≤ 1000000) (hq : ∀ t tk', Q (.str (x ++ y) t) (st s h tk')) :
    (if x.length == 0 then Made.val (.str y u) else if y.length == 0 then Made.val (.str x t) else Made.str (x ++ y)).post Q (st s h tk) := by
  by_cases h1 : x.length = 0
  · rw [if_pos (by rw [h1]; rfl)]
    have : x = strS [] := by
      rw [strS_self x]
      have : x.cps.toList = [] := List.eq_nil_of_length_eq_zero (by rw [Array.length_toList]; exact h1)
      rw [this]
    subst this
    rw [nil_strS] at hq
    exact hq u tk
  · rw [if_neg (by simpa using h1)]
    by_cases h2 : y.length = 0
    · rw [if_pos (by rw [h2]; rfl)]
      have : y = strS [] := by
        rw [strS_self y]
        have : y.cps.toList = [] := List.eq_nil_of_length_eq_zero (by rw [Array.length_toList]; exact h2)
        rw [this]
      subst this
      rw [strS_nil] at hq
      exact hq t tk
    · rw [if_neg (by simpa using h2)]
      exact ⟨by rw [PySem.Str.length_append, sizeLine_eq]; lia, hq _ _⟩
theorem z_addS {a b : Cs} (hl : a.length + b.length ≤ 1000000) (hq : ∀ t tk', Q (.str (strS (a ++ b)) t) (st s h tk')) : wpAny W.M A (binaryOp .Add (.str (strS a) t) (.str (strS b) u)) Q E (st s h tk) :=
  P.add_str (post_add (by rw [strS_len, strS_len]; exact hl) (by rw [strS_app]; exact hq))
theorem z_addSL {a b : Cs} {y : Str} (hy : y = strS a) (hl : a.length + b.length ≤ 1000000) (hq : ∀ t tk', Q (.str (strS (a ++ b)) t) (st s h tk')) : wpAny W.M A (binaryOp .Add (.str y t) (.str (strS b) u)) Q E (st s h tk) := by
  subst hy; exact z_addS hl hq
theorem z_iaddS {a b : Cs} (hl : a.length + b.length ≤ 1000000) (hq : ∀ t tk', Q (.str (strS (a ++ b)) t) (st s h tk')) : wpAny W.M A (inplaceOp .Add (.str (strS a) t) (.str (strS b) u)) Q E (st s h tk) :=
  P.iadd_str (post_add (by rw [strS_len, strS_len]; exact hl) (by rw [strS_app]; exact hq))
def addT (a b : Cs) (t u : Tok) (tk : Nat) : Tok := if a = [] then u else if b = [] then t else tk
def addK (a b : Cs) (tk : Nat) : Nat := if a = [] then tk else if b = [] then tk else tk + 1
theorem post_addD {a b : Cs} (hl : a.length + b.length ≤ 1000000) (hq : Q (.str (strS (a ++ b)) (addT a b t u tk)) (st s h (addK a b tk))) :
    (if (strS a).length == 0 then Made.val (.str (strS b) u) else if (strS b).length == 0 then Made.val (.str (strS a) t) else Made.str (strS a ++ strS b)).post Q (st s h tk) := by
  unfold addT addK at hq
  rw [strS_len, strS_len]
  by_cases h1 : a = []
  · subst h1
    exact hq
  · have e1 : ¬ (a.length == 0) = true := fun q => h1 (List.eq_nil_of_length_eq_zero (by simpa using q))
    rw [if_neg h1, if_neg h1] at hq
    rw [if_neg e1]
    by_cases h2 : b = []
    · subst h2
      rw [List.append_nil] at hq
      exact hq
    · have e2 : ¬ (b.length == 0) = true := fun q => h2 (List.eq_nil_of_length_eq_zero (by simpa using q))
      rw [if_neg h2, if_neg h2] at hq
      rw [if_neg e2]
      rw [strS_app]
      exact ⟨by rw [strS_len, List.length_append, sizeLine_eq]; lia, hq⟩
theorem d_addS {a b : Cs} (hl : a.length + b.length ≤ 1000000) (hq : Q (.str (strS (a ++ b)) (addT a b t u tk)) (st s h (addK a b tk))) : wpAny W.M A (binaryOp .Add (.str (strS a) t) (.str (strS b) u)) Q E (st s h tk) :=
  P.add_str (post_addD hl hq)
theorem d_addSL {a b : Cs} {y : Str} (hy : y = strS a) (hl : a.length + b.length ≤ 1000000) (hq : Q (.str (strS (a ++ b)) (addT a b t u tk)) (st s h (addK a b tk))) : wpAny W.M A (binaryOp .Add (.str y t) (.str (strS b) u)) Q E (st s h tk) := by
  subst hy; exact d_addS hl hq
theorem d_addSR {a b : Cs} {y : Str} (hy : y = strS b) (hl : a.length + b.length ≤ 1000000) (hq : Q (.str (strS (a ++ b)) (addT a b t u tk)) (st s h (addK a b tk))) : wpAny W.M A (binaryOp .Add (.str (strS a) t) (.str y u)) Q E (st s h tk) := by
  subst hy; exact d_addS hl hq
theorem d_iaddS {a b : Cs} (hl : a.length + b.length ≤ 1000000) (hq : Q (.str (strS (a ++ b)) (addT a b t u tk)) (st s h (addK a b tk))) : wpAny W.M A (inplaceOp .Add (.str (strS a) t) (.str (strS b) u)) Q E (st s h tk) :=
  P.iadd_str (post_addD hl hq)
theorem d_iaddL {a b : Cs} {y : Str} (hy : y = strS b) (hl : a.length + b.length ≤ 1000000) (hq : Q (.str (strS (a ++ b)) (addT a b t u tk)) (st s h (addK a b tk))) : wpAny W.M A (inplaceOp .Add (.str (strS a) t) (.str y u)) Q E (st s h tk) := by
  subst hy; exact d_iaddS hl hq
theorem z_eqSL {a b : Cs} {y : Str} (hy : y = strS b) (hq : Q (.bool (decide (a = b))) (st s h tk)) : wpAny W.M A (compareOp .Eq (.str (strS a) t) (.str y u)) Q E (st s h tk) := by
  subst hy; exact z_eqS hq
theorem z_tail_far {value slice : Expr} {cs : Cs} {i j : Nat} (F : Fr g c.L h m) (N : News g c.L h news) (h1 : i ≤ cs.length) (h2 : i ≤ j) (hl : cs.length ≤ 100000)
    (hs : subscripted slice false (.str (strS cs) t) (.ref h.objs.size) = operate [.ref h.objs.size, .str (strS cs) t] (getItem (.str (strS cs) t) (.ref h.objs.size)))
    (ht : ∀ r, letTemporaryGo value (.str (strS cs) t) r = pure ())
    (hq : ∀ t' h' tk', Fr g c.L h' m → News g c.L h' news → Q (.str (strS ((cs.drop i).take (j - i))) t') (st s h' tk')) :
    wpAny W.M c.A (subscriptTail value slice (.str (strS cs) t) (.ref h.objs.size)) Q E (st s (h.push (sliceOb (.int (i : Nat) ui) (.int (j : Nat) uj))) tk) :=
  slice_strN_ss (s := st s h tk) F N (fun h' t' k F' N' => by rw [slice_far h1 h2]; exact hq t' h' k F' N') hs ht (by rw [strS_len, sizeLine_eq]; lia)
theorem z_tail_cut {value slice : Expr} {cs p : Cs} {i j : Nat} (F : Fr g c.L h m) (N : News g c.L h news) (hp : (cs.drop i).take (j - i) = p) (h1 : i ≤ cs.length) (h2 : i ≤ j) (hl : cs.length ≤ 100000)
    (hs : subscripted slice false (.str (strS cs) t) (.ref h.objs.size) = operate [.ref h.objs.size, .str (strS cs) t] (getItem (.str (strS cs) t) (.ref h.objs.size)))
    (ht : ∀ r, letTemporaryGo value (.str (strS cs) t) r = pure ())
    (hq : ∀ t' h' tk', Fr g c.L h' m → News g c.L h' news → Q (.str (strS p) t') (st s h' tk')) :
    wpAny W.M c.A (subscriptTail value slice (.str (strS cs) t) (.ref h.objs.size)) Q E (st s (h.push (sliceOb (.int (i : Nat) ui) (.int (j : Nat) uj))) tk) :=
  z_tail_far F N h1 h2 hl hs ht (by rw [hp]; exact hq)
end
section
variable {W : Wd} {A : Ad} {a : La} {base g h : Heap} {c : Cx} {sc : Scope} {n : Nat} {m : Str → Option Value} {news : Led} {s : Shared} {tk' : Nat} {E : Value → Shared → Prop} {cs : Cs} {i : Nat} {tk fl : List Dat} {Q : Value → Shared → Prop}
theorem z_tupL {vs : List Value} {ds : List Dat} (F : Fr g c.L h m) (N : News g c.L h news) (L : LexS A a cs i tk fl news) (hd : ∃ tl, (∀ p ∈ tl, p ∈ news ∧ p.1 ∉ a.S ∧ p.2.cls = .type "tuple") ∧ DatAll tl vs ds) (hz : vs.length ≤ 1000)
    (hq : ∀ q h' tk' news', Fr g c.L h' m → News g c.L h' news' → LexS A a cs i tk fl news' → Kp a.S news news' → Apart a news' (.ref q) (.tuple ds) → Q (.ref q) (st s h' tk')) : wpAny W.M c.A (newTuple vs) Q E (st s h tk') :=
  z_tuple F N hz fun q h₁ tk₁ F₁ N₁ hne => hq q h₁ tk₁ _ F₁ N₁ (L.keep fun p hp => .tail _ hp) Kp.push (Apart.tup (L.fresh hne) hd)
end
end Mine
end
section
open PySem PySem.W PySem.Calls PySem.Spec PyProof.Rows
set_option Elab.async false
set_option maxRecDepth 100000
namespace Mine
section
variable {W : Wd} {A : Ad} {a : La} {news : Led} {cs : Cs} {i : Nat} {tk fl : List Dat}
def npO (o : Option Nat) : Bool := o.any namePart
theorem ct_is_name_part (KF : Kf W A) {t : Tok} {o : Option Nat} : Ct W A.is_name_part [.str (ch o) t] 2 news (fun r l => l = news ∧ r = .bool (npO o)) := by
  with_reducible refine enter KF.d_is_name_part.fn (fun _ _ _ _ _ _ => by kernel_rfl) (locs (by kernel_rfl)) (by kernel_rfl) (by kernel_rfl) (by kernel_rfl) (of_decide_eq_true (by kernel_rfl)) ?_
  intro c base g m s h tk₀ S F N hm
  have hm_c : m ("c" : Str) = some _ := (hm _).trans rfl
  clear hm
  have kl_c : Lc (dScope (defAt 25)) "c" := ⟨by kernel_rfl, by kernel_rfl⟩
  have kg_is_name_start : Gb (dScope (defAt 25)) "is_name_start" := ⟨by kernel_rfl, by kernel_rfl⟩
  have kk_is_name_start := KF.d_is_name_start.keep
  have gg_is_name_start := KF.g_is_name_start
  show wpAny _ _ (execs (_ :: _) _) _ _ _
  focus with_reducible
   refine x_ret ?_
   refine v_or ?_
   refine e_call1 ‹_› ‹_› ‹_› ‹_› ‹_› ‹_› (by tb_start) ?_
   refine u_is_name_start ‹_› ‹_› ‹_› ‹_› (by k_dflt decide) ?_; intro _ _ _ _
   refine Exists.intro _ (And.intro rfl ?_)
   refine And.intro (fun _ => ?_) (fun _ => ?_)
   refine z_done ‹_› ‹_› ?_
   rotate_left
   refine v_one ?_
   refine v_cmp2 ?_
   refine d_str ?_
   refine z_local ‹_› ‹_› ‹_› (by tb_start) ?_
   refine z_lec lit48 ?_
   refine Exists.intro _ (And.intro rfl ?_)
   refine And.intro (fun _ => ?_) (fun _ => ?_)
   refine d_str ?_
   refine z_cle lit57 ?_
   refine z_done ‹_› ‹_› ?_
   rotate_left
   refine z_done ‹_› ‹_› ?_
   rotate_left
  all_goals refine ⟨rfl, congrArg _ ?_⟩
  all_goals (cases o <;> simp_all [npO, nsO, namePart, isDig, geO, leO, Option.any, Option.all])
  all_goals lia
theorem ct_fault (KF : Kf W A) (L : LexS A a cs i tk fl news) (hz : fl.length ≤ 100000) {k at' : Int} {t1 t3 : Tok} {v : Value} {d : Dat} (hv : Apart a news v d) :
    Ct W A.fault [.ref a.lx, .int k t1, .int at' t3, v] 2 news (fun r l => r = .none ∧ LexS A a cs i tk (fl ++ [.tuple [.int k, .int at', d]]) l ∧ Kp a.S news l) := by
  with_reducible refine enter KF.d_fault.fn (fun _ _ _ _ _ _ => by kernel_rfl) (locs (by kernel_rfl)) (by kernel_rfl) (by kernel_rfl) (by kernel_rfl) (of_decide_eq_true (by kernel_rfl)) ?_
  intro c base g m s h tk₀ S F N hm
  have hm_self : m ("self" : Str) = some _ := (hm _).trans rfl
  have hm_number : m ("number" : Str) = some _ := (hm _).trans rfl
  have hm_at : m ("at" : Str) = some _ := (hm _).trans rfl
  have hm_words : m ("words" : Str) = some _ := (hm _).trans rfl
  clear hm
  have kl_self : Lc (dScope (metAt 21 4)) "self" := ⟨by kernel_rfl, by kernel_rfl⟩
  have kl_number : Lc (dScope (metAt 21 4)) "number" := ⟨by kernel_rfl, by kernel_rfl⟩
  have kl_at : Lc (dScope (metAt 21 4)) "at" := ⟨by kernel_rfl, by kernel_rfl⟩
  have kl_words : Lc (dScope (metAt 21 4)) "words" := ⟨by kernel_rfl, by kernel_rfl⟩
  have kk_dput := KF.m_dput.keep
  show wpAny _ _ (execs (_ :: _) _) _ _ _
  with_reducible
   refine z_expr ‹_› ?_ (by k_dflt exact rfl)
   refine PyProof.Rows.MethodCall_ ?_ (by k_dflt exact rfl)
   refine z_aDiags ‹_› ‹_› ‹_› ‹_› (by tb_start) ‹_› ‹_› ?_; intro _
   refine m_dput ‹_› ‹_› ‹_› ‹_› ‹_› ?_
   refine z_mcall ‹_› ‹_› ?_ (by k_dflt exact rfl) (by k_dflt exact rfl)
   refine z_args ?_ (by k_dflt exact rfl)
   refine z_local ‹_› ‹_› ‹_› (by tb_start) ?_
   refine z_args ?_ (by k_dflt exact rfl)
   refine z_local ‹_› ‹_› ‹_› (by tb_start) ?_
   refine z_args ?_ (by k_dflt exact rfl)
   refine z_local ‹_› ‹_› ‹_› (by tb_start) ?_
   refine z_args0 ?_
   refine And.intro (Exists.intro _ ‹_›) ?_
   refine u_dput ‹_› ‹_› ‹_› ‹_› ‹_› ‹_› (by k_dflt decide) ‹_› ?_; intro _ _ _ _ _ _ _
   refine x_nil ?_
   refine z_end ‹_› ‹_› ?_
  exact ⟨rfl, by assumption, by assumption⟩
theorem ct_skip_line (KF : Kf W A) (L : LexS A a cs i tk fl news) (hl : cs.length ≤ 100000) {j : Nat} (hij : i ≤ j) (hn : ∀ k, i ≤ k → k < j → ∃ c, cs[k]? = some c ∧ lineEnd c = false) (hj : ∃ c, cs[j]? = some c ∧ lineEnd c = true) :
    Ct W A.skip_line [.ref a.lx] 2 news (fun r l => r = .none ∧ LexS A a cs j tk fl l ∧ Kp a.S news l) := by
  with_reducible refine enter KF.d_skip_line.fn (fun _ _ _ _ _ _ => by kernel_rfl) (locs (by kernel_rfl)) (by kernel_rfl) (by kernel_rfl) (by kernel_rfl) (of_decide_eq_true (by kernel_rfl)) ?_
  intro c base g m s h tk₀ S F N hm
  have hm_lx : m ("lx" : Str) = some _ := (hm _).trans rfl
  clear hm
  have kl_lx : Lc (dScope (defAt 29)) "lx" := ⟨by kernel_rfl, by kernel_rfl⟩
  have kg_is_line_end : Gb (dScope (defAt 29)) "is_line_end" := ⟨by kernel_rfl, by kernel_rfl⟩
  have kk_is_line_end := KF.d_is_line_end.keep
  have gg_is_line_end := KF.g_is_line_end
  have kk_here := KF.m_here.keep
  show wpAny _ _ (execs (_ :: _) _) _ _ _
  with_reducible refine x_while (fun n m' l => ∃ i', i ≤ i' ∧ i' + n = j ∧ m' ("lx" : Str) = some (.ref a.lx) ∧ LexS A a cs i' tk fl l ∧ Kp a.S news l) (j - i) F N ?_ ?_
  · exact ⟨i, Nat.le_refl _, by lia, hm_lx, L, Kp.refl⟩
  · rintro n h tk' m' l F N ⟨i', h1, h2, hm, L, K⟩
    clear hm_lx
    cases n with
    | zero =>
      obtain ⟨e, he, hle⟩ := hj
      obtain rfl : i' = j := by lia
      have f1 : (!leO2 (some e)) = false := by rw [show leO2 (some e) = lineEnd e from rfl, hle]; rfl
      with_reducible
       refine t_and ?_
       refine t_here ‹_› ‹_› ‹_› ‹_› ‹_› ‹_› (by k_dflt decide) (by first | with_reducible assumption | k_dflt exact rfl) ‹_› (by tb_start) ?_ (by with_unfolding_all rfl) (by k_dflt exact rfl); intro _ _ _ _ _
       refine z_ne0 lit_nil ?_
       refine Exists.intro _ (And.intro rfl ?_)
       refine dec_tt (by k_dflt exact rfl) ?_
       refine t_and ?_
       refine t_not ?_
       refine t_call ?_
       refine e_callH ‹_› ‹_› ‹_› ‹_› ‹_› ‹_› (by k_dflt decide) (by first | with_reducible assumption | k_dflt exact rfl) ‹_› (by tb_start) ‹_› ‹_› ‹_› ?_ (by k_dflt exact rfl); intro _ _ _ _ _
       refine u_is_line_end ‹_› ‹_› ‹_› ‹_› (by k_dflt decide) ?_; intro _ _ _ _
       refine Exists.intro _ (And.intro rfl ?_)
       refine dec_ff ‹_› ?_
       refine both_ff ?_
       refine x_nil ?_
       refine z_end ‹_› ‹_› ?_
      exact ⟨rfl, L, K⟩
    | succ n =>
      obtain ⟨e, he, hle⟩ := hn i' h1 (by lia)
      have f1 : (!leO2 (some e)) = true := by rw [show leO2 (some e) = lineEnd e from rfl, hle]; rfl
      with_reducible
       refine t_and ?_
       refine t_here ‹_› ‹_› ‹_› ‹_› ‹_› ‹_› (by k_dflt decide) (by first | with_reducible assumption | k_dflt exact rfl) ‹_› (by tb_start) ?_ (by with_unfolding_all rfl) (by k_dflt exact rfl); intro _ _ _ _ _
       refine z_ne0 lit_nil ?_
       refine Exists.intro _ (And.intro rfl ?_)
       refine dec_tt (by k_dflt exact rfl) ?_
       refine t_and ?_
       refine t_not ?_
       refine t_call ?_
       refine e_callH ‹_› ‹_› ‹_› ‹_› ‹_› ‹_› (by k_dflt decide) (by first | with_reducible assumption | k_dflt exact rfl) ‹_› (by tb_start) ‹_› ‹_› ‹_› ?_ (by k_dflt exact rfl); intro _ _ _ _ _
       refine u_is_line_end ‹_› ‹_› ‹_› ‹_› (by k_dflt decide) ?_; intro _ _ _ _
       refine Exists.intro _ (And.intro rfl ?_)
       refine dec_tt ‹_› ?_
       refine PyProof.Rows.isTrue_and_nil ?_
       refine both_tt ?_
       refine x_augAtK ‹_› ‹_› ‹_› ‹_› (by tb_start) ‹_› ‹_› ?_; intro _ _ _ _ _ _ _
       refine x_nil ?_
      with_reducible refine loop_next (k := n) (by assumption) (by assumption) (Nat.lt_succ_self _) ?_
      exact ⟨i' + 1, by lia, by lia, hm, by assumption, K.trans (by assumption)⟩
theorem ct_skip_block (KF : Kf W A) (L : LexS A a cs i tk fl news) {j : Nat} (hij : i + 2 ≤ j) (hj : cs[j]? = some 42) (hj' : cs[j + 1]? = some 47) (hn : ∀ k, i + 2 ≤ k → k < j → cs[k]? ≠ some 42) :
    Ct W A.skip_block [.ref a.lx] 2 news (fun r l => r = .none ∧ LexS A a cs (j + 2) tk fl l ∧ Kp a.S news l) := by
  with_reducible refine enter KF.d_skip_block.fn (fun _ _ _ _ _ _ => by kernel_rfl) (locs (by kernel_rfl)) (by kernel_rfl) (by kernel_rfl) (by kernel_rfl) (of_decide_eq_true (by kernel_rfl)) ?_
  intro c base g m s h tk₀ S F N hm
  have hm_lx : m ("lx" : Str) = some _ := (hm _).trans rfl
  clear hm
  have kl_lx : Lc (dScope (defAt 30)) "lx" := ⟨by kernel_rfl, by kernel_rfl⟩
  have kl_end : Lc (dScope (defAt 30)) "end" := ⟨by kernel_rfl, by kernel_rfl⟩
  have kg_len : Gb (dScope (defAt 30)) "len" := ⟨by kernel_rfl, by kernel_rfl⟩
  have kk_fault := KF.m_fault.keep
  show wpAny _ _ (execs (_ :: _) _) _ _ _
  with_reducible
   refine x_assign ?_ (by k_dflt exact rfl)
   refine PyProof.Rows.MethodCall_ ?_ (by k_dflt exact rfl)
   refine z_aText ‹_› ‹_› ‹_› ‹_› (by tb_start) ‹_› ‹_› ?_; intro _ _
   refine GM.find ?_
   refine PyProof.Rows.callWith_method1 ?_ (by k_dflt exact rfl) (by k_dflt exact rfl)
   refine z_args ?_ (by k_dflt exact rfl)
   refine d_str ?_
   refine z_args ?_ (by k_dflt exact rfl)
   refine PySem.wpAny_BinOp ?_
   refine z_aAt ‹_› ‹_› ‹_› ‹_› (by tb_start) ‹_› ‹_› ?_; intro _ _
   refine d_num ?_
   refine d_add ?_
   refine z_args0 ?_
   refine call_app1 ?_
   refine d_find lit42_47 ‹_› (take2 ‹_› ‹_›) ‹_› ?_
   refine z_store ‹_› ‹_› ‹_› ‹_› ?_; intro _ _ _ _
   refine x_if ?_
   refine t_cmpN ‹_› ‹_› ‹_› (by tb_start) ?_ (by with_unfolding_all rfl)
   refine n_lt ?_
   refine Exists.intro _ (And.intro rfl ?_)
   refine dec_ff (by k_dflt exact rfl) ?_
   refine x_app ?_
   refine x_assignA ?_ (by k_dflt exact rfl)
   refine e_binN ‹_› ‹_› ‹_› (by tb_start) ?_
   refine d_add ?_
   refine z_local ‹_› ‹_› ‹_› (by tb_start) ?_
   refine z_setAt ‹_› ‹_› ‹_› ‹_› ‹_› ?_; intro _ _ _ _ _ _ _
   refine x_app0 ?_
   refine x_nil ?_
   refine z_end ‹_› ‹_› ?_
  exact ⟨rfl, by assumption, by assumption⟩
theorem u_fault {h : Heap} {g : Heap} {base : Heap} {sc : Scope} {n : Nat} {tk' : Nat} {s : Shared} {m : Str → Option Value} {c : Cx} {Q E : Value → Shared → Prop} {k at' : Int} {t1 t3 : Tok} {v : Value} {d : Dat} (S : Wk W base c g sc n) (F : Fr g c.L h m) (N : News g c.L h news) (KF : Kf W A) (L : LexS A a cs i tk fl news) (hz : fl.length ≤ 100000) (hn : 2 ≤ n) (hv : Apart a news v d)
    (hq : ∀ h' tk' news', Fr g c.L h' m → News g c.L h' news' → LexS A a cs i tk (fl ++ [.tuple [.int k, .int at', d]]) news' → Kp a.S news news' → Q .none (st s h' tk')) : wpAny W.M c.A (call (.ref A.fault) [.ref a.lx, .int k t1, .int at' t3, v]) Q E (st s h tk') :=
  z_use S F N (ct_fault KF L hz hv) hn fun r l h' tk' F' N' p => by obtain ⟨rfl, L', K'⟩ := p; exact hq h' tk' l F' N' L' K'
theorem z_useL {h : Heap} {g : Heap} {base : Heap} {sc : Scope} {n : Nat} {tk' : Nat} {s : Shared} {m : Str → Option Value} {c : Cx} {Q E : Value → Shared → Prop} {f : Addr} {vs : List Value} {k i2 : Nat} {tk2 fl2 : List Dat} (S : Wk W base c g sc n) (F : Fr g c.L h m) (N : News g c.L h news)
    (hc : Ct W f vs k news (fun r l => r = .none ∧ LexS A a cs i2 tk2 fl2 l ∧ Kp a.S news l)) (hk : k ≤ n)
    (hq : ∀ h' tk' news', Fr g c.L h' m → News g c.L h' news' → LexS A a cs i2 tk2 fl2 news' → Kp a.S news news' → Q .none (st s h' tk')) : wpAny W.M c.A (call (.ref f) vs) Q E (st s h tk') :=
  z_use S F N hc hk fun r l h' tk' F' N' p => by obtain ⟨rfl, L', K'⟩ := p; exact hq h' tk' l F' N' L' K'
inductive SkipTo (cs : Cs) : Nat → Nat → Nat → Prop
  | done (i : Nat) : (∀ c, cs[i]? = some c → isBlank c = false ∧ c ≠ 47) → SkipTo cs i i 0
  | blank {i j n c : Nat} : cs[i]? = some c → isBlank c = true → SkipTo cs (i + 1) j n → SkipTo cs i j (n + 1)
  | line {i k j n : Nat} : cs[i]? = some 47 → cs[i + 1]? = some 47 → i ≤ k → (∀ x, i ≤ x → x < k → ∃ c, cs[x]? = some c ∧ lineEnd c = false) → (∃ c, cs[k]? = some c ∧ lineEnd c = true) → SkipTo cs k j n → SkipTo cs i j (n + 1)
  | block {i k j n : Nat} : cs[i]? = some 47 → cs[i + 1]? = some 42 → i + 2 ≤ k → (∀ x, i + 2 ≤ x → x < k → cs[x]? ≠ some 42) → cs[k]? = some 42 → cs[k + 1]? = some 47 → SkipTo cs (k + 2) j n → SkipTo cs i j (n + 1)
theorem blanks_c (c : Nat) : blanksL.contains (some c).toList = isBlank c := by
  show (blanks.map fun c => [c]).contains [c] = blanks.contains c
  generalize blanks = l
  induction l with
  | nil => rfl
  | cons b r ih =>
    rw [List.map_cons, List.contains_cons, List.contains_cons, ih]
    have : (([c] : Cs) == [b]) = (c == b) := by simp
    rw [this]
theorem ct_skip_blanks (KF : Kf W A) (L : LexS A a cs i tk fl news) (hl : cs.length ≤ 100000) {j n₀ : Nat} (hs : SkipTo cs i j n₀) :
    Ct W A.skip_blanks [.ref a.lx] 3 news (fun r l => r = .none ∧ LexS A a cs j tk fl l ∧ Kp a.S news l) := by
  with_reducible refine enter KF.d_skip_blanks.fn (fun _ _ _ _ _ _ => by kernel_rfl) (locs (by kernel_rfl)) (by kernel_rfl) (by kernel_rfl) (by kernel_rfl) (of_decide_eq_true (by kernel_rfl)) ?_
  intro c base g m s h tk₀ S F N hm
  have hm_lx : m ("lx" : Str) = some _ := (hm _).trans rfl
  clear hm
  have kl_lx : Lc (dScope (defAt 28)) "lx" := ⟨by kernel_rfl, by kernel_rfl⟩
  have kl_c : Lc (dScope (defAt 28)) "c" := ⟨by kernel_rfl, by kernel_rfl⟩
  have kg_BLANKS : Gb (dScope (defAt 28)) "BLANKS" := ⟨by kernel_rfl, by kernel_rfl⟩
  have gg_BLANKS := KF.t_BLANKS.1
  have kg_skip_line : Gb (dScope (defAt 28)) "skip_line" := ⟨by kernel_rfl, by kernel_rfl⟩
  have kk_skip_line := KF.d_skip_line.keep
  have gg_skip_line := KF.g_skip_line
  have kg_skip_block : Gb (dScope (defAt 28)) "skip_block" := ⟨by kernel_rfl, by kernel_rfl⟩
  have kk_skip_block := KF.d_skip_block.keep
  have gg_skip_block := KF.g_skip_block
  have kk_here := KF.m_here.keep
  have kk_peek := KF.m_peek.keep
  show wpAny _ _ (execs (_ :: _) _) _ _ _
  have kd_BLANKS := KF.t_BLANKS.2
  with_reducible refine x_while (fun n m' l => ∃ i', SkipTo cs i' j n ∧ m' ("lx" : Str) = some (.ref a.lx) ∧ LexS A a cs i' tk fl l ∧ Kp a.S news l) n₀ F N ?_ ?_
  · exact ⟨i, hs, hm_lx, L, Kp.refl⟩
  · rintro n h tk' m' l F N ⟨i', hs', hm, L, K⟩
    clear hm_lx
    cases hs' with
    | done _ hd =>
      cases ho : cs[j]? with
      | none =>
        have f1 : blanksL.contains (none : Option Nat).toList = false := by decide +kernel
        with_reducible
         refine t_const ?_
         refine both_tt ?_
         refine x_assign ?_ (by k_dflt exact rfl)
         refine e_here ‹_› ‹_› ‹_› ‹_› ‹_› ‹_› (by k_dflt decide) (by first | with_reducible assumption | k_dflt exact rfl) ‹_› (by tb_start) ?_ (by k_dflt exact rfl); intro _ _ _ _ _
         refine z_store ‹_› ‹_› ‹_› ‹_› ?_; intro _ _ _ _
         refine x_if ?_
         refine t_cmp ?_
         refine z_local ‹_› ‹_› ‹_› (by tb_start) ?_
         refine z_global ‹_› ‹_› ‹_› ‹_› ?_
         refine z_inC ‹_› ‹_› ‹_› ?_; intro _
         refine Exists.intro _ (And.intro rfl ?_)
         refine dec_ff ‹_› ?_
         refine x_app ?_
         refine x_if ?_
         refine t_and ?_
         refine t_cmpS ‹_› ‹_› ‹_› (by tb_start) ?_ (by with_unfolding_all rfl)
         refine z_eqc lit47 ?_
         refine Exists.intro _ (And.intro rfl ?_)
         refine dec_ff (by k_dflt exact rfl) ?_
         refine both_ff ?_
         refine x_app ?_
         refine x_if ?_
         refine t_and ?_
         refine t_cmpS ‹_› ‹_› ‹_› (by tb_start) ?_ (by with_unfolding_all rfl)
         refine z_eqc lit47 ?_
         refine Exists.intro _ (And.intro rfl ?_)
         refine dec_ff (by k_dflt exact rfl) ?_
         refine both_ff ?_
         refine x_app ?_
         refine x_ret0 ?_
        with_reducible refine loop_ret (z_done (by assumption) (by assumption) ?_)
        exact ⟨rfl, L, K⟩
      | some c =>
        have f1 : blanksL.contains (some c).toList = false := (blanks_c c).trans (hd c ho).1
        have f2 : decide (some c = some 47) = false := decide_eq_false fun e => (hd c ho).2 (Option.some.inj e)
        with_reducible
         refine t_const ?_
         refine both_tt ?_
         refine x_assign ?_ (by k_dflt exact rfl)
         refine e_here ‹_› ‹_› ‹_› ‹_› ‹_› ‹_› (by k_dflt decide) (by first | with_reducible assumption | k_dflt exact rfl) ‹_› (by tb_start) ?_ (by k_dflt exact rfl); intro _ _ _ _ _
         refine z_store ‹_› ‹_› ‹_› ‹_› ?_; intro _ _ _ _
         refine x_if ?_
         refine t_cmp ?_
         refine z_local ‹_› ‹_› ‹_› (by tb_start) ?_
         refine z_global ‹_› ‹_› ‹_› ‹_› ?_
         refine z_inC ‹_› ‹_› ‹_› ?_; intro _
         refine Exists.intro _ (And.intro rfl ?_)
         refine dec_ff ‹_› ?_
         refine x_app ?_
         refine x_if ?_
         refine t_and ?_
         refine t_cmpS ‹_› ‹_› ‹_› (by tb_start) ?_ (by with_unfolding_all rfl)
         refine z_eqc lit47 ?_
         refine Exists.intro _ (And.intro rfl ?_)
         refine dec_ff ‹_› ?_
         refine both_ff ?_
         refine x_app ?_
         refine x_if ?_
         refine t_and ?_
         refine t_cmpS ‹_› ‹_› ‹_› (by tb_start) ?_ (by with_unfolding_all rfl)
         refine z_eqc lit47 ?_
         refine Exists.intro _ (And.intro rfl ?_)
         refine dec_ff ‹_› ?_
         refine both_ff ?_
         refine x_app ?_
         refine x_ret0 ?_
        with_reducible refine loop_ret (z_done (by assumption) (by assumption) ?_)
        exact ⟨rfl, L, K⟩
    | blank hc hb hs' =>
      rename_i n c
      have f1 : blanksL.contains (some c).toList = true := (blanks_c c).trans hb
      with_reducible
       refine t_const ?_
       refine both_tt ?_
       refine x_assign ?_ (by k_dflt exact rfl)
       refine e_here ‹_› ‹_› ‹_› ‹_› ‹_› ‹_› (by k_dflt decide) (by first | with_reducible assumption | k_dflt exact rfl) ‹_› (by tb_start) ?_ (by k_dflt exact rfl); intro _ _ _ _ _
       refine z_store ‹_› ‹_› ‹_› ‹_› ?_; intro _ _ _ _
       refine x_if ?_
       refine t_cmp ?_
       refine z_local ‹_› ‹_› ‹_› (by tb_start) ?_
       refine z_global ‹_› ‹_› ‹_› ‹_› ?_
       refine z_inC ‹_› ‹_› ‹_› ?_; intro _
       refine Exists.intro _ (And.intro rfl ?_)
       refine dec_tt ‹_› ?_
       refine x_app ?_
       refine x_augAtK ‹_› ‹_› ‹_› ‹_› (by tb_start) ‹_› ‹_› ?_; intro _ _ _ _ _ _ _
       refine x_app0 ?_
       refine x_nil ?_
      with_reducible refine loop_next (k := n) (by assumption) (by assumption) (Nat.lt_succ_self _) ?_
      exact ⟨i' + 1, hs', by tb_start, by assumption, K.trans (by assumption)⟩
    | line hc hc' hik hx hk hs' =>
      rename_i k n
      have f1 : blanksL.contains (some 47).toList = false := by decide +kernel
      with_reducible
       refine t_const ?_
       refine both_tt ?_
       refine x_assign ?_ (by k_dflt exact rfl)
       refine e_here ‹_› ‹_› ‹_› ‹_› ‹_› ‹_› (by k_dflt decide) (by first | with_reducible assumption | k_dflt exact rfl) ‹_› (by tb_start) ?_ (by k_dflt exact rfl); intro _ _ _ _ _
       refine z_store ‹_› ‹_› ‹_› ‹_› ?_; intro _ _ _ _
       refine x_if ?_
       refine t_cmp ?_
       refine z_local ‹_› ‹_› ‹_› (by tb_start) ?_
       refine z_global ‹_› ‹_› ‹_› ‹_› ?_
       refine z_inC ‹_› ‹_› ‹_› ?_; intro _
       refine Exists.intro _ (And.intro rfl ?_)
       refine dec_ff ‹_› ?_
       refine x_app ?_
       refine x_if ?_
       refine t_and ?_
       refine t_cmpS ‹_› ‹_› ‹_› (by tb_start) ?_ (by with_unfolding_all rfl)
       refine z_eqc lit47 ?_
       refine Exists.intro _ (And.intro rfl ?_)
       refine dec_tt (by k_dflt exact rfl) ?_
       refine t_and ?_
       refine t_peek ‹_› ‹_› ‹_› ‹_› ‹_› ‹_› (by k_dflt decide) (by first | with_reducible assumption | k_dflt exact rfl) ‹_› (by tb_start) ?_ (by with_unfolding_all rfl) (by k_dflt exact rfl); intro _ _ _ _ _
       refine z_eqc lit47 ?_
       refine Exists.intro _ (And.intro rfl ?_)
       refine dec_tt (by k_dflt exact rfl) ?_
       refine PyProof.Rows.isTrue_and_nil ?_
       refine both_tt ?_
       refine x_app ?_
       refine z_expr ‹_› ?_ (by k_dflt exact rfl)
       refine e_call1 ‹_› ‹_› ‹_› ‹_› ‹_› ‹_› (by tb_start) ?_
       refine z_useL ‹_› ‹_› ‹_› (ct_skip_line ‹_› ‹_› ‹_› ‹_› ‹_› ‹_›) (by k_dflt decide) ?_; intro _ _ _ _ _ _ _
       refine x_app0 ?_
       refine x_app0 ?_
       refine x_nil ?_
      with_reducible refine loop_next (k := n) (by assumption) (by assumption) (Nat.lt_succ_self _) ?_
      exact ⟨k, hs', by tb_start, by assumption, K.trans (by assumption)⟩
    | block hc hc' hik hx hk hk' hs' =>
      rename_i k n
      have f1 : blanksL.contains (some 47).toList = false := by decide +kernel
      with_reducible
       refine t_const ?_
       refine both_tt ?_
       refine x_assign ?_ (by k_dflt exact rfl)
       refine e_here ‹_› ‹_› ‹_› ‹_› ‹_› ‹_› (by k_dflt decide) (by first | with_reducible assumption | k_dflt exact rfl) ‹_› (by tb_start) ?_ (by k_dflt exact rfl); intro _ _ _ _ _
       refine z_store ‹_› ‹_› ‹_› ‹_› ?_; intro _ _ _ _
       refine x_if ?_
       refine t_cmp ?_
       refine z_local ‹_› ‹_› ‹_› (by tb_start) ?_
       refine z_global ‹_› ‹_› ‹_› ‹_› ?_
       refine z_inC ‹_› ‹_› ‹_› ?_; intro _
       refine Exists.intro _ (And.intro rfl ?_)
       refine dec_ff ‹_› ?_
       refine x_app ?_
       refine x_if ?_
       refine t_and ?_
       refine t_cmpS ‹_› ‹_› ‹_› (by tb_start) ?_ (by with_unfolding_all rfl)
       refine z_eqc lit47 ?_
       refine Exists.intro _ (And.intro rfl ?_)
       refine dec_tt (by k_dflt exact rfl) ?_
       refine t_and ?_
       refine t_peek ‹_› ‹_› ‹_› ‹_› ‹_› ‹_› (by k_dflt decide) (by first | with_reducible assumption | k_dflt exact rfl) ‹_› (by tb_start) ?_ (by with_unfolding_all rfl) (by k_dflt exact rfl); intro _ _ _ _ _
       refine z_eqc lit47 ?_
       refine Exists.intro _ (And.intro rfl ?_)
       refine dec_ff (by k_dflt exact rfl) ?_
       refine both_ff ?_
       refine x_app ?_
       refine x_if ?_
       refine t_and ?_
       refine t_cmpS ‹_› ‹_› ‹_› (by tb_start) ?_ (by with_unfolding_all rfl)
       refine z_eqc lit47 ?_
       refine Exists.intro _ (And.intro rfl ?_)
       refine dec_tt (by k_dflt exact rfl) ?_
       refine t_and ?_
       refine t_peek ‹_› ‹_› ‹_› ‹_› ‹_› ‹_› (by k_dflt decide) (by first | with_reducible assumption | k_dflt exact rfl) ‹_› (by tb_start) ?_ (by with_unfolding_all rfl) (by k_dflt exact rfl); intro _ _ _ _ _
       refine z_eqc lit42 ?_
       refine Exists.intro _ (And.intro rfl ?_)
       refine dec_tt (by k_dflt exact rfl) ?_
       refine PyProof.Rows.isTrue_and_nil ?_
       refine both_tt ?_
       refine x_app ?_
       refine z_expr ‹_› ?_ (by k_dflt exact rfl)
       refine e_call1 ‹_› ‹_› ‹_› ‹_› ‹_› ‹_› (by tb_start) ?_
       refine z_useL ‹_› ‹_› ‹_› (ct_skip_block ‹_› ‹_› ‹_› ‹_› ‹_› ‹_›) (by k_dflt decide) ?_; intro _ _ _ _ _ _ _
       refine x_app0 ?_
       refine x_app0 ?_
       refine x_app0 ?_
       refine x_nil ?_
      with_reducible refine loop_next (k := n) (by assumption) (by assumption) (Nat.lt_succ_self _) ?_
      exact ⟨k + 2, hs', by tb_start, by assumption, K.trans (by assumption)⟩
end
end Mine
end
section
open PySem PySem.W PySem.Calls PySem.Spec PyProof.Rows
set_option Elab.async false
set_option maxRecDepth 100000
namespace Mine
section
variable {W : Wd} {A : Ad} {a : La} {base g h : Heap} {c : Cx} {sc : Scope} {n : Nat} {m : Str → Option Value} {news : Led} {s : Shared} {tk' : Nat} {E : Value → Shared → Prop} {cs : Cs} {i : Nat} {tk fl : List Dat} {Q : Value → Shared → Prop} {t u : Tok} {o : Option Nat}
theorem u_is_name_part (S : Wk W base c g sc n) (F : Fr g c.L h m) (N : News g c.L h news) (KF : Kf W A) (hn : 2 ≤ n)
    (hq : ∀ h' tk', Fr g c.L h' m → News g c.L h' news → Q (.bool (npO o)) (st s h' tk')) : wpAny W.M c.A (call (.ref A.is_name_part) [.str (ch o) t]) Q E (st s h tk') :=
  z_use S F N (ct_is_name_part KF) hn fun r l h' tk' F' N' p => by obtain ⟨rfl, rfl⟩ := p; exact hq h' tk' F' N'
end
section
variable {W : Wd} {A : Ad} {a : La} {news : Led} {cs : Cs} {i : Nat} {tk fl : List Dat}
structure NameTo (cs : Cs) (i j : Nat) : Prop where
  le : i ≤ j
  len : j ≤ cs.length
  start : i < j → nsO cs[i]? = true
  no : i = j → nsO cs[i]? = false
  part : ∀ k, i ≤ k → k < j → npO cs[k]? = true
  stop : i < j → npO cs[j]? = false
abbrev cut (cs : Cs) (i j : Nat) : Cs := (cs.drop i).take (j - i)
theorem ct_take_name (KF : Kf W A) (L : LexS A a cs i tk fl news) (hl : cs.length ≤ 100000) {j : Nat} (H : NameTo cs i j) :
    Ct W A.take_name [.ref a.lx] 3 news (fun r l => (∃ t, r = .str (strS (cut cs i j)) t) ∧ LexS A a cs j tk fl l ∧ Kp a.S news l) := by
  have hlen := H.len
  rcases Nat.lt_or_eq_of_le H.le with hij | rfl
  · have hns := H.start hij
    with_reducible refine enter KF.d_take_name.fn (fun _ _ _ _ _ _ => by kernel_rfl) (locs (by kernel_rfl)) (by kernel_rfl) (by kernel_rfl) (by kernel_rfl) (of_decide_eq_true (by kernel_rfl)) ?_
    intro c base g m s h tk₀ S F N hm
    have hm_lx : m ("lx" : Str) = some _ := (hm _).trans rfl
    clear hm
    have kl_lx : Lc (dScope (defAt 31)) "lx" := ⟨by kernel_rfl, by kernel_rfl⟩
    have kl_begin : Lc (dScope (defAt 31)) "begin" := ⟨by kernel_rfl, by kernel_rfl⟩
    have kg_is_name_start : Gb (dScope (defAt 31)) "is_name_start" := ⟨by kernel_rfl, by kernel_rfl⟩
    have kk_is_name_start := KF.d_is_name_start.keep
    have gg_is_name_start := KF.g_is_name_start
    have kg_is_name_part : Gb (dScope (defAt 31)) "is_name_part" := ⟨by kernel_rfl, by kernel_rfl⟩
    have kk_is_name_part := KF.d_is_name_part.keep
    have gg_is_name_part := KF.g_is_name_part
    have kk_here := KF.m_here.keep
    show wpAny _ _ (execs (_ :: _) _) _ _ _
    with_reducible
     refine x_assign ?_ (by k_dflt exact rfl)
     refine z_aAt ‹_› ‹_› ‹_› ‹_› (by tb_start) ‹_› ‹_› ?_; intro _ _
     refine z_store ‹_› ‹_› ‹_› ‹_› ?_; intro _ _ _ _
     refine x_if ?_
     refine t_call ?_
     refine e_callH ‹_› ‹_› ‹_› ‹_› ‹_› ‹_› (by k_dflt decide) (by first | with_reducible assumption | k_dflt exact rfl) ‹_› (by tb_start) ‹_› ‹_› ‹_› ?_ (by k_dflt exact rfl); intro _ _ _ _ _
     refine u_is_name_start ‹_› ‹_› ‹_› ‹_› (by k_dflt decide) ?_; intro _ _ _ _
     refine Exists.intro _ (And.intro rfl ?_)
     refine dec_tt ‹_› ?_
     refine x_app ?_
    with_reducible refine x_while (fun n m' l => ∃ i' t, i ≤ i' ∧ i' + n = j ∧ m' ("lx" : Str) = some (.ref a.lx) ∧ m' ("begin" : Str) = some (.int (i : Nat) t) ∧ LexS A a cs i' tk fl l ∧ Kp a.S news l) (j - i) (by assumption) (by assumption) ?_ ?_
    · exact ⟨i, _, Nat.le_refl _, by lia, by tb_start, by tb_start, L, Kp.refl⟩
    · rintro n h tk' m' l F N ⟨i', t, h1, h2, hm, hm', L, K⟩
      clear hm_lx
      cases n with
      | zero =>
        obtain rfl : i' = j := by lia
        have f1 := H.stop hij
        with_reducible
         refine t_call ?_
         refine e_callH ‹_› ‹_› ‹_› ‹_› ‹_› ‹_› (by k_dflt decide) (by first | with_reducible assumption | k_dflt exact rfl) ‹_› (by tb_start) ‹_› ‹_› ‹_› ?_ (by k_dflt exact rfl); intro _ _ _ _ _
         refine u_is_name_part ‹_› ‹_› ‹_› ‹_› (by k_dflt decide) ?_; intro _ _ _ _
         refine Exists.intro _ (And.intro rfl ?_)
         refine dec_ff ‹_› ?_
         refine x_app0 ?_
         refine x_ret ?_
         refine PyProof.Rows.Subscript_ ?_
         refine z_aText ‹_› ‹_› ‹_› ‹_› (by tb_start) ‹_› ‹_› ?_; intro _ _
         refine z_slice ?_
         refine evalPart_some_step ?_
         refine z_local ‹_› ‹_› ‹_› (by tb_start) ?_
         refine evalPart_some_step ?_
         refine z_aAt ‹_› ‹_› ‹_› ‹_› (by tb_start) ‹_› ‹_› ?_; intro _ _
         refine Exists.intro _ (Exists.intro _ (And.intro rfl ?_))
         refine z_tail_ss ‹_› ‹_› (by first | with_reducible assumption | lia) (by first | with_reducible assumption | lia) ‹_› (by with_unfolding_all rfl) (by intro _; with_unfolding_all rfl) ?_; intro _ _ _ _ _
         refine z_done ‹_› ‹_› ?_
        exact ⟨⟨_, rfl⟩, L, K⟩
      | succ n =>
        have f1 := H.part i' h1 (by lia)
        with_reducible
         refine t_call ?_
         refine e_callH ‹_› ‹_› ‹_› ‹_› ‹_› ‹_› (by k_dflt decide) (by first | with_reducible assumption | k_dflt exact rfl) ‹_› (by tb_start) ‹_› ‹_› ‹_› ?_ (by k_dflt exact rfl); intro _ _ _ _ _
         refine u_is_name_part ‹_› ‹_› ‹_› ‹_› (by k_dflt decide) ?_; intro _ _ _ _
         refine Exists.intro _ (And.intro rfl ?_)
         refine dec_tt ‹_› ?_
         refine x_augAtK ‹_› ‹_› ‹_› ‹_› (by tb_start) ‹_› ‹_› ?_; intro _ _ _ _ _ _ _
         refine x_nil ?_
        with_reducible refine loop_next (k := n) (by assumption) (by assumption) (Nat.lt_succ_self _) ?_
        exact ⟨i' + 1, t, by lia, by lia, hm, hm', by assumption, K.trans (by assumption)⟩
  · have hns := H.no rfl
    with_reducible refine enter KF.d_take_name.fn (fun _ _ _ _ _ _ => by kernel_rfl) (locs (by kernel_rfl)) (by kernel_rfl) (by kernel_rfl) (by kernel_rfl) (of_decide_eq_true (by kernel_rfl)) ?_
    intro c base g m s h tk₀ S F N hm
    have hm_lx : m ("lx" : Str) = some _ := (hm _).trans rfl
    clear hm
    have kl_lx : Lc (dScope (defAt 31)) "lx" := ⟨by kernel_rfl, by kernel_rfl⟩
    have kl_begin : Lc (dScope (defAt 31)) "begin" := ⟨by kernel_rfl, by kernel_rfl⟩
    have kg_is_name_start : Gb (dScope (defAt 31)) "is_name_start" := ⟨by kernel_rfl, by kernel_rfl⟩
    have kk_is_name_start := KF.d_is_name_start.keep
    have gg_is_name_start := KF.g_is_name_start
    have kg_is_name_part : Gb (dScope (defAt 31)) "is_name_part" := ⟨by kernel_rfl, by kernel_rfl⟩
    have kk_is_name_part := KF.d_is_name_part.keep
    have gg_is_name_part := KF.g_is_name_part
    have kk_here := KF.m_here.keep
    show wpAny _ _ (execs (_ :: _) _) _ _ _
    with_reducible
     refine x_assign ?_ (by k_dflt exact rfl)
     refine z_aAt ‹_› ‹_› ‹_› ‹_› (by tb_start) ‹_› ‹_› ?_; intro _ _
     refine z_store ‹_› ‹_› ‹_› ‹_› ?_; intro _ _ _ _
     refine x_if ?_
     refine t_call ?_
     refine e_callH ‹_› ‹_› ‹_› ‹_› ‹_› ‹_› (by k_dflt decide) (by first | with_reducible assumption | k_dflt exact rfl) ‹_› (by tb_start) ‹_› ‹_› ‹_› ?_ (by k_dflt exact rfl); intro _ _ _ _ _
     refine u_is_name_start ‹_› ‹_› ‹_› ‹_› (by k_dflt decide) ?_; intro _ _ _ _
     refine Exists.intro _ (And.intro rfl ?_)
     refine dec_ff ‹_› ?_
     refine x_app0 ?_
     refine x_ret ?_
     refine PyProof.Rows.Subscript_ ?_
     refine z_aText ‹_› ‹_› ‹_› ‹_› (by tb_start) ‹_› ‹_› ?_; intro _ _
     refine z_slice ?_
     refine evalPart_some_step ?_
     refine z_local ‹_› ‹_› ‹_› (by tb_start) ?_
     refine evalPart_some_step ?_
     refine z_aAt ‹_› ‹_› ‹_› ‹_› (by tb_start) ‹_› ‹_› ?_; intro _ _
     refine Exists.intro _ (Exists.intro _ (And.intro rfl ?_))
     refine z_tail_ss ‹_› ‹_› (by first | with_reducible assumption | lia) (by first | with_reducible assumption | lia) ‹_› (by with_unfolding_all rfl) (by intro _; with_unfolding_all rfl) ?_; intro _ _ _ _ _
     refine z_done ‹_› ‹_› ?_
    exact ⟨⟨_, rfl⟩, L, Kp.refl⟩
theorem u_take_name {h : Heap} {g : Heap} {base : Heap} {sc : Scope} {n : Nat} {tk' : Nat} {s : Shared} {m : Str → Option Value} {c : Cx} {Q E : Value → Shared → Prop} (S : Wk W base c g sc n) (F : Fr g c.L h m) (N : News g c.L h news) (KF : Kf W A) (L : LexS A a cs i tk fl news) (hl : cs.length ≤ 100000) {j : Nat} (H : NameTo cs i j) (hn : 3 ≤ n)
    (hq : ∀ t h' tk' news', Fr g c.L h' m → News g c.L h' news' → LexS A a cs j tk fl news' → Kp a.S news news' → Q (.str (strS (cut cs i j)) t) (st s h' tk')) : wpAny W.M c.A (call (.ref A.take_name) [.ref a.lx]) Q E (st s h tk') :=
  z_use S F N (ct_take_name KF L hl H) hn fun r l h' tk' F' N' p => by obtain ⟨⟨t, rfl⟩, L', K'⟩ := p; exact hq t h' tk' l F' N' L' K'
end
end Mine
end
section
open PySem PySem.W PySem.Calls PySem.Spec PyProof.Rows
set_option Elab.async false
set_option maxRecDepth 100000
namespace Mine
section
variable {W : Wd} {A : Ad} {a : La} {news : Led} {cs : Cs} {i : Nat} {tk fl : List Dat}
theorem ct_lex_name (KF : Kf W A) (L : LexS A a cs i tk fl news) (hl : cs.length ≤ 100000) (hz : tk.length ≤ 100000) {j : Nat} (H : NameTo cs i j) {t : Tok} :
    Ct W A.lex_name [.ref a.lx, .int (i : Nat) t] 4 news (fun r l => r = .none ∧ LexS A a cs j (tk ++ [tokD (if isWord (cut cs i j) then 2 else 1) (strD (cut cs i j)) i]) fl l ∧ Kp a.S news l) := by
  with_reducible refine enter KF.d_lex_name.fn (fun _ _ _ _ _ _ => by kernel_rfl) (locs (by kernel_rfl)) (by kernel_rfl) (by kernel_rfl) (by kernel_rfl) (of_decide_eq_true (by kernel_rfl)) ?_
  intro c base g m s h tk₀ S F N hm
  have hm_lx : m ("lx" : Str) = some _ := (hm _).trans rfl
  have hm_begin : m ("begin" : Str) = some _ := (hm _).trans rfl
  clear hm
  have kl_lx : Lc (dScope (defAt 32)) "lx" := ⟨by kernel_rfl, by kernel_rfl⟩
  have kl_begin : Lc (dScope (defAt 32)) "begin" := ⟨by kernel_rfl, by kernel_rfl⟩
  have kl_name : Lc (dScope (defAt 32)) "name" := ⟨by kernel_rfl, by kernel_rfl⟩
  have kg_take_name : Gb (dScope (defAt 32)) "take_name" := ⟨by kernel_rfl, by kernel_rfl⟩
  have kk_take_name := KF.d_take_name.keep
  have gg_take_name := KF.g_take_name
  have kg_WORDS : Gb (dScope (defAt 32)) "WORDS" := ⟨by kernel_rfl, by kernel_rfl⟩
  have gg_WORDS := KF.t_WORDS.1
  have kg_TK_WORD : Gb (dScope (defAt 32)) "TK_WORD" := ⟨by kernel_rfl, by kernel_rfl⟩
  obtain ⟨ti_TK_WORD, gg_TK_WORD⟩ := KF.i_TK_WORD
  have kg_TK_NAME : Gb (dScope (defAt 32)) "TK_NAME" := ⟨by kernel_rfl, by kernel_rfl⟩
  obtain ⟨ti_TK_NAME, gg_TK_NAME⟩ := KF.i_TK_NAME
  have kk_put := KF.m_put.keep
  show wpAny _ _ (execs (_ :: _) _) _ _ _
  have kd_WORDS := KF.t_WORDS.2
  cases hw : wordsL.contains (cut cs i j) with
  | true =>
    have e : isWord (cut cs i j) = true := hw
    rw [e]
    with_reducible
     refine x_assign ?_ (by k_dflt exact rfl)
     refine e_call1 ‹_› ‹_› ‹_› ‹_› ‹_› ‹_› (by tb_start) ?_
     refine u_take_name ‹_› ‹_› ‹_› ‹_› ‹_› ‹_› ‹_› (by k_dflt decide) ?_; intro _ _ _ _ _ _ _ _
     refine z_store ‹_› ‹_› ‹_› ‹_› ?_; intro _ _ _ _
     refine x_if ?_
     refine t_cmp ?_
     refine z_local ‹_› ‹_› ‹_› (by tb_start) ?_
     refine z_global ‹_› ‹_› ‹_› ‹_› ?_
     refine z_inDic ‹_› ‹_› ‹_› ?_; intro _
     refine Exists.intro _ (And.intro rfl ?_)
     refine dec_tt ‹_› ?_
     refine x_app ?_
     refine z_expr ‹_› ?_ (by k_dflt exact rfl)
     refine PyProof.Rows.MethodCall_ ?_ (by k_dflt exact rfl)
     refine z_local ‹_› ‹_› ‹_› (by tb_start) ?_
     refine m_lex ‹_› ‹_› ‹_› ‹_› ‹_› (Kf.m_put ‹_›) mem_here.2.2.1 ?_
     refine z_mcall ‹_› ‹_› ?_ (by k_dflt exact rfl) (by k_dflt exact rfl)
     refine z_args ?_ (by k_dflt exact rfl)
     refine z_global ‹_› ‹_› ‹_› ‹_› ?_
     refine z_args ?_ (by k_dflt exact rfl)
     refine z_local ‹_› ‹_› ‹_› (by tb_start) ?_
     refine z_args ?_ (by k_dflt exact rfl)
     refine z_local ‹_› ‹_› ‹_› (by tb_start) ?_
     refine z_args0 ?_
     refine And.intro (Exists.intro _ ‹_›) ?_
     refine u_put ‹_› ‹_› ‹_› ‹_› ‹_› ‹_› (by k_dflt decide) (by first | with_reducible assumption | ((with_reducible show Apart _ _ (Value.str _ _) _); with_reducible exact Apart.str) | ((with_reducible show Apart _ _ (Value.int _ _) _); with_reducible exact Apart.int)) ?_; intro _ _ _ _ _ _ _
     refine x_app0 ?_
     refine x_nil ?_
     refine z_end ‹_› ‹_› ?_
    exact ⟨rfl, by assumption, Kp.trans (by assumption) (by assumption)⟩
  | false =>
    have e : isWord (cut cs i j) = false := hw
    rw [e]
    with_reducible
     refine x_assign ?_ (by k_dflt exact rfl)
     refine e_call1 ‹_› ‹_› ‹_› ‹_› ‹_› ‹_› (by tb_start) ?_
     refine u_take_name ‹_› ‹_› ‹_› ‹_› ‹_› ‹_› ‹_› (by k_dflt decide) ?_; intro _ _ _ _ _ _ _ _
     refine z_store ‹_› ‹_› ‹_› ‹_› ?_; intro _ _ _ _
     refine x_if ?_
     refine t_cmp ?_
     refine z_local ‹_› ‹_› ‹_› (by tb_start) ?_
     refine z_global ‹_› ‹_› ‹_› ‹_› ?_
     refine z_inDic ‹_› ‹_› ‹_› ?_; intro _
     refine Exists.intro _ (And.intro rfl ?_)
     refine dec_ff ‹_› ?_
     refine x_app ?_
     refine z_expr ‹_› ?_ (by k_dflt exact rfl)
     refine PyProof.Rows.MethodCall_ ?_ (by k_dflt exact rfl)
     refine z_local ‹_› ‹_› ‹_› (by tb_start) ?_
     refine m_lex ‹_› ‹_› ‹_› ‹_› ‹_› (Kf.m_put ‹_›) mem_here.2.2.1 ?_
     refine z_mcall ‹_› ‹_› ?_ (by k_dflt exact rfl) (by k_dflt exact rfl)
     refine z_args ?_ (by k_dflt exact rfl)
     refine z_global ‹_› ‹_› ‹_› ‹_› ?_
     refine z_args ?_ (by k_dflt exact rfl)
     refine z_local ‹_› ‹_› ‹_› (by tb_start) ?_
     refine z_args ?_ (by k_dflt exact rfl)
     refine z_local ‹_› ‹_› ‹_› (by tb_start) ?_
     refine z_args0 ?_
     refine And.intro (Exists.intro _ ‹_›) ?_
     refine u_put ‹_› ‹_› ‹_› ‹_› ‹_› ‹_› (by k_dflt decide) (by first | with_reducible assumption | ((with_reducible show Apart _ _ (Value.str _ _) _); with_reducible exact Apart.str) | ((with_reducible show Apart _ _ (Value.int _ _) _); with_reducible exact Apart.int)) ?_; intro _ _ _ _ _ _ _
     refine x_app0 ?_
     refine x_nil ?_
     refine z_end ‹_› ‹_› ?_
    exact ⟨rfl, by assumption, Kp.trans (by assumption) (by assumption)⟩
theorem ct_lex_at_name (KF : Kf W A) (L : LexS A a cs i tk fl news) (hl : cs.length ≤ 100000) (hz : tk.length ≤ 100000) {j : Nat} (hij : i + 1 < j) (H : NameTo cs (i + 1) j) (hq : decide (cs[i + 1]? = some 34) = false) :
    Ct W A.lex_at [.ref a.lx] 5 news (fun r l => r = .none ∧ LexS A a cs j (tk ++ [tokD 1 (strD (if isWord (cut cs (i + 1) j) || isNear (cut cs (i + 1) j) then 64 :: cut cs (i + 1) j else cut cs (i + 1) j)) i]) fl l ∧ Kp a.S news l) := by
  have hne : decide (cut cs (i + 1) j = []) = false := decide_eq_false fun e => by
    have := congrArg List.length e
    have := H.len
    simp only [List.length_take, List.length_drop, List.length_nil] at *
    lia
  have hadd : [64].length + (cut cs (i + 1) j).length ≤ 1000000 := by
    have : (cut cs (i + 1) j).length ≤ cs.length := by simp only [List.length_take, List.length_drop]; lia
    simp only [List.length_cons, List.length_nil]; lia
  with_reducible refine enter KF.d_lex_at.fn (fun _ _ _ _ _ _ => by kernel_rfl) (locs (by kernel_rfl)) (by kernel_rfl) (by kernel_rfl) (by kernel_rfl) (of_decide_eq_true (by kernel_rfl)) ?_
  intro c base g m s h tk₀ S F N hm
  have hm_lx : m ("lx" : Str) = some _ := (hm _).trans rfl
  clear hm
  have kl_lx : Lc (dScope (defAt 33)) "lx" := ⟨by kernel_rfl, by kernel_rfl⟩
  have kl_begin : Lc (dScope (defAt 33)) "begin" := ⟨by kernel_rfl, by kernel_rfl⟩
  have kl_name : Lc (dScope (defAt 33)) "name" := ⟨by kernel_rfl, by kernel_rfl⟩
  have kg_take_name : Gb (dScope (defAt 33)) "take_name" := ⟨by kernel_rfl, by kernel_rfl⟩
  have kk_take_name := KF.d_take_name.keep
  have gg_take_name := KF.g_take_name
  have kg_read_verbatim : Gb (dScope (defAt 33)) "read_verbatim" := ⟨by kernel_rfl, by kernel_rfl⟩
  have kk_read_verbatim := KF.d_read_verbatim.keep
  have gg_read_verbatim := KF.g_read_verbatim
  have kg_WORDS : Gb (dScope (defAt 33)) "WORDS" := ⟨by kernel_rfl, by kernel_rfl⟩
  have gg_WORDS := KF.t_WORDS.1
  have kg_NEAR_WORDS : Gb (dScope (defAt 33)) "NEAR_WORDS" := ⟨by kernel_rfl, by kernel_rfl⟩
  have gg_NEAR_WORDS := KF.t_NEAR_WORDS.1
  have kg_TK_NAME : Gb (dScope (defAt 33)) "TK_NAME" := ⟨by kernel_rfl, by kernel_rfl⟩
  obtain ⟨ti_TK_NAME, gg_TK_NAME⟩ := KF.i_TK_NAME
  have kk_peek := KF.m_peek.keep
  have kk_fault := KF.m_fault.keep
  have kk_put := KF.m_put.keep
  show wpAny _ _ (execs (_ :: _) _) _ _ _
  have kd_WORDS := KF.t_WORDS.2
  have kd_NEAR := KF.t_NEAR_WORDS.2
  cases hw : wordsL.contains (cut cs (i + 1) j) with
  | true =>
    have e : isWord (cut cs (i + 1) j) = true := hw
    rw [e, Bool.true_or]
    with_reducible
     refine x_assign ?_ (by k_dflt exact rfl)
     refine z_aAt ‹_› ‹_› ‹_› ‹_› (by tb_start) ‹_› ‹_› ?_; intro _ _
     refine z_store ‹_› ‹_› ‹_› ‹_› ?_; intro _ _ _ _
     refine x_if ?_
     refine t_peek ‹_› ‹_› ‹_› ‹_› ‹_› ‹_› (by k_dflt decide) (by first | with_reducible assumption | k_dflt exact rfl) ‹_› (by tb_start) ?_ (by with_unfolding_all rfl) (by k_dflt exact rfl); intro _ _ _ _ _
     refine z_eqc lit34 ?_
     refine Exists.intro _ (And.intro rfl ?_)
     refine dec_ff ‹_› ?_
     refine x_app0 ?_
     refine x_augAtK ‹_› ‹_› ‹_› ‹_› (by tb_start) ‹_› ‹_› ?_; intro _ _ _ _ _ _ _
     refine x_assign ?_ (by k_dflt exact rfl)
     refine e_call1 ‹_› ‹_› ‹_› ‹_› ‹_› ‹_› (by tb_start) ?_
     refine u_take_name ‹_› ‹_› ‹_› ‹_› ‹_› ‹_› ‹_› (by k_dflt decide) ?_; intro _ _ _ _ _ _ _ _
     refine z_store ‹_› ‹_› ‹_› ‹_› ?_; intro _ _ _ _
     refine x_if ?_
     refine t_cmpS ‹_› ‹_› ‹_› (by tb_start) ?_ (by with_unfolding_all rfl)
     refine z_eqSL lit_nil ?_
     refine Exists.intro _ (And.intro rfl ?_)
     refine dec_ff ‹_› ?_
     refine x_app ?_
     refine x_if ?_
     refine t_or ?_
     refine t_cmp ?_
     refine z_local ‹_› ‹_› ‹_› (by tb_start) ?_
     refine z_global ‹_› ‹_› ‹_› ‹_› ?_
     refine z_inDic ‹_› ‹_› ‹_› ?_; intro _
     refine Exists.intro _ (And.intro rfl ?_)
     refine dec_tt ‹_› ?_
     refine both_tt ?_
     refine x_app ?_
     refine z_expr ‹_› ?_ (by k_dflt exact rfl)
     refine PyProof.Rows.MethodCall_ ?_ (by k_dflt exact rfl)
     refine z_local ‹_› ‹_› ‹_› (by tb_start) ?_
     refine m_lex ‹_› ‹_› ‹_› ‹_› ‹_› (Kf.m_put ‹_›) mem_here.2.2.1 ?_
     refine z_mcall ‹_› ‹_› ?_ (by k_dflt exact rfl) (by k_dflt exact rfl)
     refine z_args ?_ (by k_dflt exact rfl)
     refine z_global ‹_› ‹_› ‹_› ‹_› ?_
     refine z_args ?_ (by k_dflt exact rfl)
     refine PySem.wpAny_BinOp ?_
     refine d_str ?_
     refine z_local ‹_› ‹_› ‹_› (by tb_start) ?_
     refine d_addSL lit64 (by first | with_reducible assumption | lia) ?_
     refine z_args ?_ (by k_dflt exact rfl)
     refine z_local ‹_› ‹_› ‹_› (by tb_start) ?_
     refine z_args0 ?_
     refine And.intro (Exists.intro _ ‹_›) ?_
     refine u_put ‹_› ‹_› ‹_› ‹_› ‹_› ‹_› (by k_dflt decide) (by first | with_reducible assumption | ((with_reducible show Apart _ _ (Value.str _ _) _); with_reducible exact Apart.str) | ((with_reducible show Apart _ _ (Value.int _ _) _); with_reducible exact Apart.int)) ?_; intro _ _ _ _ _ _ _
     refine x_app0 ?_
     refine x_app0 ?_
     refine x_nil ?_
     refine z_end ‹_› ‹_› ?_
    exact ⟨rfl, by assumption, Kp.trans (by assumption) (Kp.trans (by assumption) (by assumption))⟩
  | false =>
    have e : isWord (cut cs (i + 1) j) = false := hw
    rw [e, Bool.false_or]
    cases hw' : nearL.contains (cut cs (i + 1) j) with
    | true =>
      have e : isNear (cut cs (i + 1) j) = true := hw'
      rw [e]
      with_reducible
       refine x_assign ?_ (by k_dflt exact rfl)
       refine z_aAt ‹_› ‹_› ‹_› ‹_› (by tb_start) ‹_› ‹_› ?_; intro _ _
       refine z_store ‹_› ‹_› ‹_› ‹_› ?_; intro _ _ _ _
       refine x_if ?_
       refine t_peek ‹_› ‹_› ‹_› ‹_› ‹_› ‹_› (by k_dflt decide) (by first | with_reducible assumption | k_dflt exact rfl) ‹_› (by tb_start) ?_ (by with_unfolding_all rfl) (by k_dflt exact rfl); intro _ _ _ _ _
       refine z_eqc lit34 ?_
       refine Exists.intro _ (And.intro rfl ?_)
       refine dec_ff ‹_› ?_
       refine x_app0 ?_
       refine x_augAtK ‹_› ‹_› ‹_› ‹_› (by tb_start) ‹_› ‹_› ?_; intro _ _ _ _ _ _ _
       refine x_assign ?_ (by k_dflt exact rfl)
       refine e_call1 ‹_› ‹_› ‹_› ‹_› ‹_› ‹_› (by tb_start) ?_
       refine u_take_name ‹_› ‹_› ‹_› ‹_› ‹_› ‹_› ‹_› (by k_dflt decide) ?_; intro _ _ _ _ _ _ _ _
       refine z_store ‹_› ‹_› ‹_› ‹_› ?_; intro _ _ _ _
       refine x_if ?_
       refine t_cmpS ‹_› ‹_› ‹_› (by tb_start) ?_ (by with_unfolding_all rfl)
       refine z_eqSL lit_nil ?_
       refine Exists.intro _ (And.intro rfl ?_)
       refine dec_ff ‹_› ?_
       refine x_app ?_
       refine x_if ?_
       refine t_or ?_
       refine t_cmp ?_
       refine z_local ‹_› ‹_› ‹_› (by tb_start) ?_
       refine z_global ‹_› ‹_› ‹_› ‹_› ?_
       refine z_inDic ‹_› ‹_› ‹_› ?_; intro _
       refine Exists.intro _ (And.intro rfl ?_)
       refine dec_ff ‹_› ?_
       refine t_or ?_
       refine t_cmp ?_
       refine z_local ‹_› ‹_› ‹_› (by tb_start) ?_
       refine z_global ‹_› ‹_› ‹_› ‹_› ?_
       refine z_inDic ‹_› ‹_› ‹_› ?_; intro _
       refine Exists.intro _ (And.intro rfl ?_)
       refine dec_tt ‹_› ?_
       refine both_tt ?_
       refine x_app ?_
       refine z_expr ‹_› ?_ (by k_dflt exact rfl)
       refine PyProof.Rows.MethodCall_ ?_ (by k_dflt exact rfl)
       refine z_local ‹_› ‹_› ‹_› (by tb_start) ?_
       refine m_lex ‹_› ‹_› ‹_› ‹_› ‹_› (Kf.m_put ‹_›) mem_here.2.2.1 ?_
       refine z_mcall ‹_› ‹_› ?_ (by k_dflt exact rfl) (by k_dflt exact rfl)
       refine z_args ?_ (by k_dflt exact rfl)
       refine z_global ‹_› ‹_› ‹_› ‹_› ?_
       refine z_args ?_ (by k_dflt exact rfl)
       refine PySem.wpAny_BinOp ?_
       refine d_str ?_
       refine z_local ‹_› ‹_› ‹_› (by tb_start) ?_
       refine d_addSL lit64 (by first | with_reducible assumption | lia) ?_
       refine z_args ?_ (by k_dflt exact rfl)
       refine z_local ‹_› ‹_› ‹_› (by tb_start) ?_
       refine z_args0 ?_
       refine And.intro (Exists.intro _ ‹_›) ?_
       refine u_put ‹_› ‹_› ‹_› ‹_› ‹_› ‹_› (by k_dflt decide) (by first | with_reducible assumption | ((with_reducible show Apart _ _ (Value.str _ _) _); with_reducible exact Apart.str) | ((with_reducible show Apart _ _ (Value.int _ _) _); with_reducible exact Apart.int)) ?_; intro _ _ _ _ _ _ _
       refine x_app0 ?_
       refine x_app0 ?_
       refine x_nil ?_
       refine z_end ‹_› ‹_› ?_
      exact ⟨rfl, by assumption, Kp.trans (by assumption) (Kp.trans (by assumption) (by assumption))⟩
    | false =>
      have e : isNear (cut cs (i + 1) j) = false := hw'
      rw [e]
      with_reducible
       refine x_assign ?_ (by k_dflt exact rfl)
       refine z_aAt ‹_› ‹_› ‹_› ‹_› (by tb_start) ‹_› ‹_› ?_; intro _ _
       refine z_store ‹_› ‹_› ‹_› ‹_› ?_; intro _ _ _ _
       refine x_if ?_
       refine t_peek ‹_› ‹_› ‹_› ‹_› ‹_› ‹_› (by k_dflt decide) (by first | with_reducible assumption | k_dflt exact rfl) ‹_› (by tb_start) ?_ (by with_unfolding_all rfl) (by k_dflt exact rfl); intro _ _ _ _ _
       refine z_eqc lit34 ?_
       refine Exists.intro _ (And.intro rfl ?_)
       refine dec_ff ‹_› ?_
       refine x_app0 ?_
       refine x_augAtK ‹_› ‹_› ‹_› ‹_› (by tb_start) ‹_› ‹_› ?_; intro _ _ _ _ _ _ _
       refine x_assign ?_ (by k_dflt exact rfl)
       refine e_call1 ‹_› ‹_› ‹_› ‹_› ‹_› ‹_› (by tb_start) ?_
       refine u_take_name ‹_› ‹_› ‹_› ‹_› ‹_› ‹_› ‹_› (by k_dflt decide) ?_; intro _ _ _ _ _ _ _ _
       refine z_store ‹_› ‹_› ‹_› ‹_› ?_; intro _ _ _ _
       refine x_if ?_
       refine t_cmpS ‹_› ‹_› ‹_› (by tb_start) ?_ (by with_unfolding_all rfl)
       refine z_eqSL lit_nil ?_
       refine Exists.intro _ (And.intro rfl ?_)
       refine dec_ff ‹_› ?_
       refine x_app ?_
       refine x_if ?_
       refine t_or ?_
       refine t_cmp ?_
       refine z_local ‹_› ‹_› ‹_› (by tb_start) ?_
       refine z_global ‹_› ‹_› ‹_› ‹_› ?_
       refine z_inDic ‹_› ‹_› ‹_› ?_; intro _
       refine Exists.intro _ (And.intro rfl ?_)
       refine dec_ff ‹_› ?_
       refine t_or ?_
       refine t_cmp ?_
       refine z_local ‹_› ‹_› ‹_› (by tb_start) ?_
       refine z_global ‹_› ‹_› ‹_› ‹_› ?_
       refine z_inDic ‹_› ‹_› ‹_› ?_; intro _
       refine Exists.intro _ (And.intro rfl ?_)
       refine dec_ff ‹_› ?_
       refine PyProof.Rows.isTrue_or_nil ?_
       refine both_ff ?_
       refine x_app ?_
       refine z_expr ‹_› ?_ (by k_dflt exact rfl)
       refine PyProof.Rows.MethodCall_ ?_ (by k_dflt exact rfl)
       refine z_local ‹_› ‹_› ‹_› (by tb_start) ?_
       refine m_lex ‹_› ‹_› ‹_› ‹_› ‹_› (Kf.m_put ‹_›) mem_here.2.2.1 ?_
       refine z_mcall ‹_› ‹_› ?_ (by k_dflt exact rfl) (by k_dflt exact rfl)
       refine z_args ?_ (by k_dflt exact rfl)
       refine z_global ‹_› ‹_› ‹_› ‹_› ?_
       refine z_args ?_ (by k_dflt exact rfl)
       refine z_local ‹_› ‹_› ‹_› (by tb_start) ?_
       refine z_args ?_ (by k_dflt exact rfl)
       refine z_local ‹_› ‹_› ‹_› (by tb_start) ?_
       refine z_args0 ?_
       refine And.intro (Exists.intro _ ‹_›) ?_
       refine u_put ‹_› ‹_› ‹_› ‹_› ‹_› ‹_› (by k_dflt decide) (by first | with_reducible assumption | ((with_reducible show Apart _ _ (Value.str _ _) _); with_reducible exact Apart.str) | ((with_reducible show Apart _ _ (Value.int _ _) _); with_reducible exact Apart.int)) ?_; intro _ _ _ _ _ _ _
       refine x_app0 ?_
       refine x_app0 ?_
       refine x_nil ?_
       refine z_end ‹_› ‹_› ?_
      exact ⟨rfl, by assumption, Kp.trans (by assumption) (Kp.trans (by assumption) (by assumption))⟩
theorem ct_lex_at_bad (KF : Kf W A) (L : LexS A a cs i tk fl news) (hl : cs.length ≤ 100000) (hz : fl.length ≤ 100000) (H : NameTo cs (i + 1) (i + 1)) (hq : decide (cs[i + 1]? = some 34) = false) :
    Ct W A.lex_at [.ref a.lx] 5 news (fun r l => r = .none ∧ LexS A a cs (i + 1) tk (fl ++ [fltD 1646 i []]) l ∧ Kp a.S news l) := by
  have hne : decide (cut cs (i + 1) (i + 1) = []) = true := decide_eq_true (by simp [cut])
  with_reducible refine enter KF.d_lex_at.fn (fun _ _ _ _ _ _ => by kernel_rfl) (locs (by kernel_rfl)) (by kernel_rfl) (by kernel_rfl) (by kernel_rfl) (of_decide_eq_true (by kernel_rfl)) ?_
  intro c base g m s h tk₀ S F N hm
  have hm_lx : m ("lx" : Str) = some _ := (hm _).trans rfl
  clear hm
  have kl_lx : Lc (dScope (defAt 33)) "lx" := ⟨by kernel_rfl, by kernel_rfl⟩
  have kl_begin : Lc (dScope (defAt 33)) "begin" := ⟨by kernel_rfl, by kernel_rfl⟩
  have kl_name : Lc (dScope (defAt 33)) "name" := ⟨by kernel_rfl, by kernel_rfl⟩
  have kg_take_name : Gb (dScope (defAt 33)) "take_name" := ⟨by kernel_rfl, by kernel_rfl⟩
  have kk_take_name := KF.d_take_name.keep
  have gg_take_name := KF.g_take_name
  have kg_read_verbatim : Gb (dScope (defAt 33)) "read_verbatim" := ⟨by kernel_rfl, by kernel_rfl⟩
  have kk_read_verbatim := KF.d_read_verbatim.keep
  have gg_read_verbatim := KF.g_read_verbatim
  have kg_WORDS : Gb (dScope (defAt 33)) "WORDS" := ⟨by kernel_rfl, by kernel_rfl⟩
  have gg_WORDS := KF.t_WORDS.1
  have kg_NEAR_WORDS : Gb (dScope (defAt 33)) "NEAR_WORDS" := ⟨by kernel_rfl, by kernel_rfl⟩
  have gg_NEAR_WORDS := KF.t_NEAR_WORDS.1
  have kg_TK_NAME : Gb (dScope (defAt 33)) "TK_NAME" := ⟨by kernel_rfl, by kernel_rfl⟩
  obtain ⟨ti_TK_NAME, gg_TK_NAME⟩ := KF.i_TK_NAME
  have kk_peek := KF.m_peek.keep
  have kk_fault := KF.m_fault.keep
  have kk_put := KF.m_put.keep
  show wpAny _ _ (execs (_ :: _) _) _ _ _
  with_reducible
   refine x_assign ?_ (by k_dflt exact rfl)
   refine z_aAt ‹_› ‹_› ‹_› ‹_› (by tb_start) ‹_› ‹_› ?_; intro _ _
   refine z_store ‹_› ‹_› ‹_› ‹_› ?_; intro _ _ _ _
   refine x_if ?_
   refine t_peek ‹_› ‹_› ‹_› ‹_› ‹_› ‹_› (by k_dflt decide) (by first | with_reducible assumption | k_dflt exact rfl) ‹_› (by tb_start) ?_ (by with_unfolding_all rfl) (by k_dflt exact rfl); intro _ _ _ _ _
   refine z_eqc lit34 ?_
   refine Exists.intro _ (And.intro rfl ?_)
   refine dec_ff ‹_› ?_
   refine x_app0 ?_
   refine x_augAtK ‹_› ‹_› ‹_› ‹_› (by tb_start) ‹_› ‹_› ?_; intro _ _ _ _ _ _ _
   refine x_assign ?_ (by k_dflt exact rfl)
   refine e_call1 ‹_› ‹_› ‹_› ‹_› ‹_› ‹_› (by tb_start) ?_
   refine u_take_name ‹_› ‹_› ‹_› ‹_› ‹_› ‹_› ‹_› (by k_dflt decide) ?_; intro _ _ _ _ _ _ _ _
   refine z_store ‹_› ‹_› ‹_› ‹_› ?_; intro _ _ _ _
   refine x_if ?_
   refine t_cmpS ‹_› ‹_› ‹_› (by tb_start) ?_ (by with_unfolding_all rfl)
   refine z_eqSL lit_nil ?_
   refine Exists.intro _ (And.intro rfl ?_)
   refine dec_tt ‹_› ?_
   refine x_app ?_
   refine z_expr ‹_› ?_ (by k_dflt exact rfl)
   refine PyProof.Rows.MethodCall_ ?_ (by k_dflt exact rfl)
   refine z_local ‹_› ‹_› ‹_› (by tb_start) ?_
   refine m_lex ‹_› ‹_› ‹_› ‹_› ‹_› (Kf.m_fault ‹_›) mem_here.2.2.2 ?_
   refine z_mcall ‹_› ‹_› ?_ (by k_dflt exact rfl) (by k_dflt exact rfl)
   refine z_args ?_ (by k_dflt exact rfl)
   refine d_num ?_
   refine z_args ?_ (by k_dflt exact rfl)
   refine z_local ‹_› ‹_› ‹_› (by tb_start) ?_
   refine z_args ?_ (by k_dflt exact rfl)
   refine PyProof.Rows.Tuple_ ?_
   refine z_args0 ?_
   refine z_tupL ‹_› ‹_› ‹_› (by first | with_reducible exact aparts_nil | with_reducible exact aparts_cons Apart.str aparts_nil | with_reducible exact aparts_cons Apart.int (aparts_cons Apart.str aparts_nil)) (by k_dflt exact Nat.le_of_ble_eq_true rfl) ?_; intro _ _ _ _ _ _ _ _ _
   refine z_args0 ?_
   refine And.intro (Exists.intro _ ‹_›) ?_
   refine u_fault ‹_› ‹_› ‹_› ‹_› ‹_› ‹_› (by k_dflt decide) (by first | with_reducible assumption | ((with_reducible show Apart _ _ (Value.str _ _) _); with_reducible exact Apart.str) | ((with_reducible show Apart _ _ (Value.int _ _) _); with_reducible exact Apart.int)) ?_; intro _ _ _ _ _ _ _
   refine x_app0 ?_
   refine x_nil ?_
   refine z_end ‹_› ‹_› ?_
  exact ⟨rfl, by assumption, by lcg_sub⟩
theorem signs_one : signsL.all (fun k => match k with | c :: r => !oneSigns.contains c || r.isEmpty | [] => false) = true := by decide +kernel
theorem signs_low : signsL.all (fun k => match k with | c :: _ => decide (c < 127) | [] => false) = true := by decide +kernel
theorem sign_in {c : Nat} (h : c ∈ oneSigns) : signsL.contains [c] = true := by
  have : oneSigns.all (fun c => signsL.contains [c]) = true := by decide +kernel
  exact List.all_eq_true.mp this c h
theorem sign_more {c d : Nat} {r : Cs} (h : c ∈ oneSigns) : signsL.contains (c :: d :: r) = false := by
  refine Bool.eq_false_iff.mpr fun e => ?_
  have := List.all_eq_true.mp signs_one _ (List.contains_iff_mem.mp e)
  dsimp only at this
  rw [List.contains_iff_mem.mpr h] at this
  cases this
theorem sign_strange {c : Nat} {r : Cs} (h : strange c = true) : signsL.contains (c :: r) = false := by
  refine Bool.eq_false_iff.mpr fun e => ?_
  have := List.all_eq_true.mp signs_low _ (List.contains_iff_mem.mp e)
  dsimp only at this
  simp only [strange, Bool.and_eq_true, decide_eq_true_eq] at h this
  lia
theorem cut_cons {cs : Cs} {i c k : Nat} (h : cs[i]? = some c) : (cs.drop i).take (k + 1) = c :: (cs.drop (i + 1)).take k := by
  have hlt : i < cs.length := (List.getElem?_eq_some_iff.mp h).1
  rw [List.drop_eq_getElem_cons hlt, List.take_succ_cons, (List.getElem?_eq_some_iff.mp h).2]
theorem ct_read_sign (KF : Kf W A) (L : LexS A a cs i tk fl news) (hl : cs.length ≤ 100000) (hz : tk.length ≤ 100000) {c₀ : Nat} (hc : cs[i]? = some c₀) (hs : c₀ ∈ oneSigns) :
    Ct W A.read_sign [.ref a.lx] 3 news (fun r l => r = .none ∧ LexS A a cs (i + 1) (tk ++ [tokD 6 (strD [c₀]) i]) fl l ∧ Kp a.S news l) := by
  have hil : i ≤ cs.length := Nat.le_of_lt (List.getElem?_eq_some_iff.mp hc).1
  with_reducible refine enter KF.d_read_sign.fn (fun _ _ _ _ _ _ => by kernel_rfl) (locs (by kernel_rfl)) (by kernel_rfl) (by kernel_rfl) (by kernel_rfl) (of_decide_eq_true (by kernel_rfl)) ?_
  intro c base g m s h tk₀ S F N hm
  have hm_lx : m ("lx" : Str) = some _ := (hm _).trans rfl
  clear hm
  have kl_lx : Lc (dScope (defAt 34)) "lx" := ⟨by kernel_rfl, by kernel_rfl⟩
  have kl_count : Lc (dScope (defAt 34)) "count" := ⟨by kernel_rfl, by kernel_rfl⟩
  have kl_piece : Lc (dScope (defAt 34)) "piece" := ⟨by kernel_rfl, by kernel_rfl⟩
  have kg_LONGEST_SIGN : Gb (dScope (defAt 34)) "LONGEST_SIGN" := ⟨by kernel_rfl, by kernel_rfl⟩
  obtain ⟨ti_LONGEST_SIGN, gg_LONGEST_SIGN⟩ := KF.i_LONGEST_SIGN
  have kg_SIGNS : Gb (dScope (defAt 34)) "SIGNS" := ⟨by kernel_rfl, by kernel_rfl⟩
  have gg_SIGNS := KF.t_SIGNS.1
  have kg_TK_SIGN : Gb (dScope (defAt 34)) "TK_SIGN" := ⟨by kernel_rfl, by kernel_rfl⟩
  obtain ⟨ti_TK_SIGN, gg_TK_SIGN⟩ := KF.i_TK_SIGN
  have kg_len : Gb (dScope (defAt 34)) "len" := ⟨by kernel_rfl, by kernel_rfl⟩
  have kk_fault := KF.m_fault.keep
  have kk_put := KF.m_put.keep
  have kk_here := KF.m_here.keep
  have kk_peek := KF.m_peek.keep
  show wpAny _ _ (execs (_ :: _) _) _ _ _
  have kd_SIGNS := KF.t_SIGNS.2
  with_reducible
   refine x_assign ?_ (by k_dflt exact rfl)
   refine z_global ‹_› ‹_› ‹_› ‹_› ?_
   refine z_store ‹_› ‹_› ‹_› ‹_› ?_; intro _ _ _ _
  with_reducible refine x_while (fun n m' l => ∃ k t, n = k ∧ 1 ≤ k ∧ k ≤ 3 ∧ m' ("lx" : Str) = some (.ref a.lx) ∧ m' ("count" : Str) = some (.int (k : Nat) t) ∧ LexS A a cs i tk fl l ∧ Kp a.S news l) 3 (by assumption) (by assumption) ?_ ?_
  · exact ⟨3, _, rfl, by lia, Nat.le_refl _, by tb_start, by tb_start, L, Kp.refl⟩
  · rintro n h tk' m' l F N ⟨k, t, rfl, h1, h3, hm, hm', L, K⟩
    clear hm_lx
    obtain ⟨k, rfl⟩ : ∃ k', n = k' + 1 := ⟨n - 1, by lia⟩
    have e := cut_cons (k := k) hc
    rw [show k + 1 = i + (k + 1) - i by lia] at e
    cases hr : (cs.drop (i + 1)).take k with
    | nil =>
      rw [hr] at e
      have f1 := sign_in hs
      have f2 : decide ([c₀] = [62, 61]) = false := by simp
      have f3 : ([c₀] : Cs).length ≤ 100000 := Nat.le_of_ble_eq_true rfl
      with_reducible
       refine t_cmpN ‹_› ‹_› ‹_› (by tb_start) ?_ (by with_unfolding_all rfl)
       refine n_gt ?_
       refine Exists.intro _ (And.intro rfl ?_)
       refine dec_tt (by k_dflt exact rfl) ?_
       refine x_assign ?_ (by k_dflt exact rfl)
       refine PyProof.Rows.Subscript_ ?_
       refine z_aText ‹_› ‹_› ‹_› ‹_› (by tb_start) ‹_› ‹_› ?_; intro _ _
       refine z_slice ?_
       refine evalPart_some_step ?_
       refine z_aAt ‹_› ‹_› ‹_› ‹_› (by tb_start) ‹_› ‹_› ?_; intro _ _
       refine evalPart_some_step ?_
       refine PySem.wpAny_BinOp ?_
       refine z_aAt ‹_› ‹_› ‹_› ‹_› (by tb_start) ‹_› ‹_› ?_; intro _ _
       refine z_local ‹_› ‹_› ‹_› (by tb_start) ?_
       refine d_add ?_
       refine Exists.intro _ (Exists.intro _ (And.intro rfl ?_))
       refine z_tail_cut ‹_› ‹_› ‹_› (by first | with_reducible assumption | lia) (by first | with_reducible assumption | lia) ‹_› (by with_unfolding_all rfl) (by intro _; with_unfolding_all rfl) ?_; intro _ _ _ _ _
       refine z_store ‹_› ‹_› ‹_› ‹_› ?_; intro _ _ _ _
       refine x_if ?_
       refine t_and ?_
       refine t_cmp ?_
       refine z_local ‹_› ‹_› ‹_› (by tb_start) ?_
       refine z_global ‹_› ‹_› ‹_› ‹_› ?_
       refine z_inDic ‹_› ‹_› ‹_› ?_; intro _
       refine Exists.intro _ (And.intro rfl ?_)
       refine dec_tt ‹_› ?_
       refine t_and ?_
       refine t_not ?_
       refine t_and ?_
       refine t_cmpS ‹_› ‹_› ‹_› (by tb_start) ?_ (by with_unfolding_all rfl)
       refine z_eqSL lit62_61 ?_
       refine Exists.intro _ (And.intro rfl ?_)
       refine dec_ff ‹_› ?_
       refine dec_tt (by k_dflt exact rfl) ?_
       refine PyProof.Rows.isTrue_and_nil ?_
       refine both_tt ?_
       refine x_app ?_
       refine z_expr ‹_› ?_ (by k_dflt exact rfl)
       refine PyProof.Rows.MethodCall_ ?_ (by k_dflt exact rfl)
       refine z_local ‹_› ‹_› ‹_› (by tb_start) ?_
       refine m_lex ‹_› ‹_› ‹_› ‹_› ‹_› (Kf.m_put ‹_›) mem_here.2.2.1 ?_
       refine z_mcall ‹_› ‹_› ?_ (by k_dflt exact rfl) (by k_dflt exact rfl)
       refine z_args ?_ (by k_dflt exact rfl)
       refine z_global ‹_› ‹_› ‹_› ‹_› ?_
       refine z_args ?_ (by k_dflt exact rfl)
       refine z_local ‹_› ‹_› ‹_› (by tb_start) ?_
       refine z_args ?_ (by k_dflt exact rfl)
       refine z_aAt ‹_› ‹_› ‹_› ‹_› (by tb_start) ‹_› ‹_› ?_; intro _ _
       refine z_args0 ?_
       refine And.intro (Exists.intro _ ‹_›) ?_
       refine u_put ‹_› ‹_› ‹_› ‹_› ‹_› ‹_› (by k_dflt decide) (by first | with_reducible assumption | ((with_reducible show Apart _ _ (Value.str _ _) _); with_reducible exact Apart.str) | ((with_reducible show Apart _ _ (Value.int _ _) _); with_reducible exact Apart.int)) ?_; intro _ _ _ _ _ _ _
       refine x_app ?_
       refine x_augAt ‹_› ‹_› ‹_› ‹_› (by tb_start) ‹_› ‹_› ?_; intro _
       refine e_built ‹_› ‹_› ‹_› (Kf.b_len ‹_›) boot_len (by decide) ?_ (by k_dflt exact rfl)
       refine z_local ‹_› ‹_› ‹_› (by tb_start) ?_
       refine d_len ‹_› ?_
       refine Exists.intro _ (Exists.intro _ (Exists.intro _ (And.intro rfl (And.intro rfl ?_)))); intro _ _ _ _ _ _ _
       refine x_app ?_
       refine x_ret0 ?_
      with_reducible refine loop_ret (z_done (by assumption) (by assumption) ?_)
      exact ⟨rfl, by assumption, by lcg_sub⟩
    | cons d r =>
      have hk : k ≠ 0 := fun e => by subst e; simp at hr
      rw [hr] at e
      have f1 := sign_more (d := d) (r := r) hs
      with_reducible
       refine t_cmpN ‹_› ‹_› ‹_› (by tb_start) ?_ (by with_unfolding_all rfl)
       refine n_gt ?_
       refine Exists.intro _ (And.intro rfl ?_)
       refine dec_tt (by k_dflt exact rfl) ?_
       refine x_assign ?_ (by k_dflt exact rfl)
       refine PyProof.Rows.Subscript_ ?_
       refine z_aText ‹_› ‹_› ‹_› ‹_› (by tb_start) ‹_› ‹_› ?_; intro _ _
       refine z_slice ?_
       refine evalPart_some_step ?_
       refine z_aAt ‹_› ‹_› ‹_› ‹_› (by tb_start) ‹_› ‹_› ?_; intro _ _
       refine evalPart_some_step ?_
       refine PySem.wpAny_BinOp ?_
       refine z_aAt ‹_› ‹_› ‹_› ‹_› (by tb_start) ‹_› ‹_› ?_; intro _ _
       refine z_local ‹_› ‹_› ‹_› (by tb_start) ?_
       refine d_add ?_
       refine Exists.intro _ (Exists.intro _ (And.intro rfl ?_))
       refine z_tail_cut ‹_› ‹_› ‹_› (by first | with_reducible assumption | lia) (by first | with_reducible assumption | lia) ‹_› (by with_unfolding_all rfl) (by intro _; with_unfolding_all rfl) ?_; intro _ _ _ _ _
       refine z_store ‹_› ‹_› ‹_› ‹_› ?_; intro _ _ _ _
       refine x_if ?_
       refine t_and ?_
       refine t_cmp ?_
       refine z_local ‹_› ‹_› ‹_› (by tb_start) ?_
       refine z_global ‹_› ‹_› ‹_› ‹_› ?_
       refine z_inDic ‹_› ‹_› ‹_› ?_; intro _
       refine Exists.intro _ (And.intro rfl ?_)
       refine dec_ff ‹_› ?_
       refine both_ff ?_
       refine x_app0 ?_
       refine x_augN ?_
       refine z_load ‹_› ‹_› ‹_› (by tb_start) ?_
       refine d_num ?_
       refine d_isub (by lia) ?_
       refine z_store ‹_› ‹_› ‹_› ‹_› ?_; intro _ _ _ _
       refine x_nil ?_
      with_reducible refine loop_next (k := k + 1 - 1) (by assumption) (by assumption) (by lia) ?_
      exact ⟨k + 1 - 1, _, rfl, by lia, by lia, by tb_start, by tb_start, by assumption, by lcg_sub⟩
theorem ct_read_sign_strange (KF : Kf W A) (L : LexS A a cs i tk fl news) (hl : cs.length ≤ 100000) (hz : fl.length ≤ 100000) {c₀ : Nat} (hc : cs[i]? = some c₀) (hs : strange c₀ = true) :
    Ct W A.read_sign [.ref a.lx] 3 news (fun r l => r = .none ∧ LexS A a cs (i + 1) tk (fl ++ [fltD 1056 i [strD [c₀]]]) l ∧ Kp a.S news l) := by
  have hil : i ≤ cs.length := Nat.le_of_lt (List.getElem?_eq_some_iff.mp hc).1
  with_reducible refine enter KF.d_read_sign.fn (fun _ _ _ _ _ _ => by kernel_rfl) (locs (by kernel_rfl)) (by kernel_rfl) (by kernel_rfl) (by kernel_rfl) (of_decide_eq_true (by kernel_rfl)) ?_
  intro c base g m s h tk₀ S F N hm
  have hm_lx : m ("lx" : Str) = some _ := (hm _).trans rfl
  clear hm
  have kl_lx : Lc (dScope (defAt 34)) "lx" := ⟨by kernel_rfl, by kernel_rfl⟩
  have kl_count : Lc (dScope (defAt 34)) "count" := ⟨by kernel_rfl, by kernel_rfl⟩
  have kl_piece : Lc (dScope (defAt 34)) "piece" := ⟨by kernel_rfl, by kernel_rfl⟩
  have kg_LONGEST_SIGN : Gb (dScope (defAt 34)) "LONGEST_SIGN" := ⟨by kernel_rfl, by kernel_rfl⟩
  obtain ⟨ti_LONGEST_SIGN, gg_LONGEST_SIGN⟩ := KF.i_LONGEST_SIGN
  have kg_SIGNS : Gb (dScope (defAt 34)) "SIGNS" := ⟨by kernel_rfl, by kernel_rfl⟩
  have gg_SIGNS := KF.t_SIGNS.1
  have kg_TK_SIGN : Gb (dScope (defAt 34)) "TK_SIGN" := ⟨by kernel_rfl, by kernel_rfl⟩
  obtain ⟨ti_TK_SIGN, gg_TK_SIGN⟩ := KF.i_TK_SIGN
  have kg_len : Gb (dScope (defAt 34)) "len" := ⟨by kernel_rfl, by kernel_rfl⟩
  have kk_fault := KF.m_fault.keep
  have kk_put := KF.m_put.keep
  have kk_here := KF.m_here.keep
  have kk_peek := KF.m_peek.keep
  show wpAny _ _ (execs (_ :: _) _) _ _ _
  have kd_SIGNS := KF.t_SIGNS.2
  with_reducible
   refine x_assign ?_ (by k_dflt exact rfl)
   refine z_global ‹_› ‹_› ‹_› ‹_› ?_
   refine z_store ‹_› ‹_› ‹_› ‹_› ?_; intro _ _ _ _
  with_reducible refine x_while (fun n m' l => ∃ k t, n = k ∧ k ≤ 3 ∧ m' ("lx" : Str) = some (.ref a.lx) ∧ m' ("count" : Str) = some (.int (k : Nat) t) ∧ LexS A a cs i tk fl l ∧ Kp a.S news l) 3 (by assumption) (by assumption) ?_ ?_
  · exact ⟨3, _, rfl, Nat.le_refl _, by tb_start, by tb_start, L, Kp.refl⟩
  · rintro n h tk' m' l F N ⟨k, t, rfl, h3, hm, hm', L, K⟩
    clear hm_lx
    cases n with
    | zero =>
      with_reducible
       refine t_cmpN ‹_› ‹_› ‹_› (by tb_start) ?_ (by with_unfolding_all rfl)
       refine n_gt ?_
       refine Exists.intro _ (And.intro rfl ?_)
       refine dec_ff (by k_dflt exact rfl) ?_
       refine z_expr ‹_› ?_ (by k_dflt exact rfl)
       refine PyProof.Rows.MethodCall_ ?_ (by k_dflt exact rfl)
       refine z_local ‹_› ‹_› ‹_› (by tb_start) ?_
       refine m_lex ‹_› ‹_› ‹_› ‹_› ‹_› (Kf.m_fault ‹_›) mem_here.2.2.2 ?_
       refine z_mcall ‹_› ‹_› ?_ (by k_dflt exact rfl) (by k_dflt exact rfl)
       refine z_args ?_ (by k_dflt exact rfl)
       refine d_num ?_
       refine z_args ?_ (by k_dflt exact rfl)
       refine z_aAt ‹_› ‹_› ‹_› ‹_› (by tb_start) ‹_› ‹_› ?_; intro _ _
       refine z_args ?_ (by k_dflt exact rfl)
       refine PyProof.Rows.Tuple_ ?_
       refine z_args ?_ (by k_dflt exact rfl)
       refine e_here ‹_› ‹_› ‹_› ‹_› ‹_› ‹_› (by k_dflt decide) (by first | with_reducible assumption | k_dflt exact rfl) ‹_› (by tb_start) ?_ (by k_dflt exact rfl); intro _ _ _ _ _
       refine z_args0 ?_
       refine z_tupL ‹_› ‹_› ‹_› (by first | with_reducible exact aparts_nil | with_reducible exact aparts_cons Apart.str aparts_nil | with_reducible exact aparts_cons Apart.int (aparts_cons Apart.str aparts_nil)) (by k_dflt exact Nat.le_of_ble_eq_true rfl) ?_; intro _ _ _ _ _ _ _ _ _
       refine z_args0 ?_
       refine And.intro (Exists.intro _ ‹_›) ?_
       refine u_fault ‹_› ‹_› ‹_› ‹_› ‹_› ‹_› (by k_dflt decide) (by first | with_reducible assumption | ((with_reducible show Apart _ _ (Value.str _ _) _); with_reducible exact Apart.str) | ((with_reducible show Apart _ _ (Value.int _ _) _); with_reducible exact Apart.int)) ?_; intro _ _ _ _ _ _ _
       refine x_augAtK ‹_› ‹_› ‹_› ‹_› (by tb_start) ‹_› ‹_› ?_; intro _ _ _ _ _ _ _
       refine x_nil ?_
       refine z_end ‹_› ‹_› ?_
      exact ⟨rfl, by assumption, by lcg_sub⟩
    | succ k =>
      have e := cut_cons (k := k) hc
      rw [show k + 1 = i + (k + 1) - i by lia] at e
      have f1 := sign_strange (r := (cs.drop (i + 1)).take k) hs
      with_reducible
       refine t_cmpN ‹_› ‹_› ‹_› (by tb_start) ?_ (by with_unfolding_all rfl)
       refine n_gt ?_
       refine Exists.intro _ (And.intro rfl ?_)
       refine dec_tt (by k_dflt exact rfl) ?_
       refine x_assign ?_ (by k_dflt exact rfl)
       refine PyProof.Rows.Subscript_ ?_
       refine z_aText ‹_› ‹_› ‹_› ‹_› (by tb_start) ‹_› ‹_› ?_; intro _ _
       refine z_slice ?_
       refine evalPart_some_step ?_
       refine z_aAt ‹_› ‹_› ‹_› ‹_› (by tb_start) ‹_› ‹_› ?_; intro _ _
       refine evalPart_some_step ?_
       refine PySem.wpAny_BinOp ?_
       refine z_aAt ‹_› ‹_› ‹_› ‹_› (by tb_start) ‹_› ‹_› ?_; intro _ _
       refine z_local ‹_› ‹_› ‹_› (by tb_start) ?_
       refine d_add ?_
       refine Exists.intro _ (Exists.intro _ (And.intro rfl ?_))
       refine z_tail_cut ‹_› ‹_› ‹_› (by first | with_reducible assumption | lia) (by first | with_reducible assumption | lia) ‹_› (by with_unfolding_all rfl) (by intro _; with_unfolding_all rfl) ?_; intro _ _ _ _ _
       refine z_store ‹_› ‹_› ‹_› ‹_› ?_; intro _ _ _ _
       refine x_if ?_
       refine t_and ?_
       refine t_cmp ?_
       refine z_local ‹_› ‹_› ‹_› (by tb_start) ?_
       refine z_global ‹_› ‹_› ‹_› ‹_› ?_
       refine z_inDic ‹_› ‹_› ‹_› ?_; intro _
       refine Exists.intro _ (And.intro rfl ?_)
       refine dec_ff ‹_› ?_
       refine both_ff ?_
       refine x_app0 ?_
       refine x_augN ?_
       refine z_load ‹_› ‹_› ‹_› (by tb_start) ?_
       refine d_num ?_
       refine d_isub (by lia) ?_
       refine z_store ‹_› ‹_› ‹_› ‹_› ?_; intro _ _ _ _
       refine x_nil ?_
      with_reducible refine loop_next (k := k + 1 - 1) (by assumption) (by assumption) (by lia) ?_
      exact ⟨k + 1 - 1, _, rfl, by lia, by tb_start, by tb_start, by assumption, by lcg_sub⟩
end
end Mine
end
section
open PySem PySem.W PySem.Calls PySem.Spec PyProof.Rows
set_option Elab.async false
set_option maxRecDepth 100000
namespace Mine
def ForE (W : Wd) (c : Cx) (g : Heap) (s : Shared) (I : Addr) (oI : Obj) (J : Nat → (Str → Option Value) → Led → Prop) (i : Nat) (rest : List Stmt) (Q : Flow → Shared → Prop) (f : Flow) (s' : Shared) : Prop :=
  match f with
  | .next | .cont => ∃ h' tk' m' l', s' = st s h' tk' ∧ Fr g c.L h' m' ∧ News g c.L h' l' ∧ (I, oI) ∈ l' ∧ ∀ l'', (∀ p ∈ l', p.1 ≠ I → p ∈ l'') → J (i + 1) m' l''
  | .brk => wpAny W.M c.A (execs rest c.env) Q NoE s'
  | .ret v => Q (.ret v) s'
def ForK (W : Wd) (c : Cx) (t : Expr) (it : Value) (body rest : List Stmt) (Q : Flow → Shared → Prop) (s : Shared) : Prop :=
  codeAny W.M c.A (.forLoop t it body [] c.env) (fun r s' => match r with
    | .ok f => (match f with | .next => wpAny W.M c.A (execs rest c.env) Q NoE s' | f => Q f s')
    | .error e => cameBackBy W.M c.A c.env NoE e s') s
section
variable {W : Wd} {base g h : Heap} {c : Cx} {sc : Scope} {n : Nat} {m : Str → Option Value} {news : Led} {s : Shared} {tk : Nat} {rest body : List Stmt} {Q : Flow → Shared → Prop} {x : Str} {px pos : Pos}
theorem x_for {t it : Expr} (hq : wpAny W.M c.A (eval it c.env) (fun v s₁ => wpAny W.M c.A (pyIter v) (fun iv s₂ => ForK W c t iv body rest Q s₂) NoE s₁) NoE (st s h tk))
    (hs : ∀ v, foldedSetIterable it c.env v = pure v) : wpAny W.M c.A (execs (.For t it body [] pos :: rest) c.env) Q NoE (st s h tk) :=
  wpAny_execs_cons (wpAny_For hq hs)
theorem for_next {I : Addr} {oI : Obj} {J : Nat → (Str → Option Value) → Led → Prop} {i : Nat} (F : Fr g c.L h m) (N : News g c.L h news) (hI : (I, oI) ∈ news) (hj : ∀ l'', (∀ p ∈ news, p.1 ≠ I → p ∈ l'') → J (i + 1) m l'') :
    ForE W c g s I oI J i rest Q .next (st s h tk) := ⟨h, tk, m, news, rfl, F, N, hI, hj⟩
theorem news_minus {I : Addr} {l : Led} (N : News g c.L h l) : News g c.L h (l.filter fun p => decide (p.1 ≠ I)) := fun p hp => N p (List.mem_filter.mp hp).1
theorem for_walk {I : Addr} {fp : List Addr} {k : Nat} {P : Nat → Value → Prop} {St : Nat → Heap → Prop} (J : Nat → (Str → Option Value) → Led → Prop) (S : Wk W base c g sc n) (kx : Lc sc x) (hW : Walks W.prog W.w c.A I fp [I] k P St)
    (F : Fr g c.L h m) (N : News g c.L h news) (hst : St 0 h) (hI : I ≠ c.L) (hIg : g.get? I = none) (hfree : ∀ p ∈ news, p.1 ≠ I)
    (hfp : ∀ b ∈ fp, b ≠ I → (∃ o, g.get? b = some o) ∨ ∃ o, ∀ i m l, J i m l → (b, o) ∈ l) (hsome : ∀ i h, St i h → ∃ o, h.get? I = some o ∧ o.cls ≠ .type "tuple")
    (hj : J 0 m news)
    (turn : ∀ i v h tk m' l oI, i < k → P i v → oI.cls ≠ .type "tuple" → Fr g c.L h (upd m' x v) → News g c.L h ((I, oI) :: l) → (∀ p ∈ l, p.1 ≠ I) → J i m' l → wpAny W.M c.A (execs body c.env) (ForE W c g s I oI J i rest Q) NoE (st s h tk))
    (done : ∀ h tk m' l, Fr g c.L h m' → News g c.L h l → J k m' l → wpAny W.M c.A (execs rest c.env) Q NoE (st s h tk)) :
    ForK W c (.Name x px) (.ref I) body rest Q (st s h tk) := by
  let Inv : Nat → Shared → Prop := fun r s' => ∃ i h' tk' m' l, r = k - i ∧ i ≤ k ∧ s' = st s h' tk' ∧ Fr g c.L h' m' ∧ News g c.L h' l ∧ (∀ p ∈ l, p.1 ≠ I) ∧ St i h' ∧ J i m' l
  refine codeAny_forLoop Inv ?_ k ⟨0, h, tk, m, news, by lia, by lia, rfl, F, N, hfree, hst, hj⟩ (by intro _; rfl)
  rintro r s' ⟨i, h', tk', m', l, rfl, hik, rfl, F', N', hl, hst', hj'⟩
  have keepF : ∀ {h₂ : Heap}, (∀ b o, b ∉ [I] → h'.get? b = some o → h₂.get? b = some o) → Fr g c.L h₂ m' ∧ News g c.L h₂ l := fun {h₂} hk => by
    refine ⟨⟨F'.ns.at' fun o e => hk _ o (by simpa using Ne.symm hI) e, fun b o e => hk b o (by
      simp only [List.mem_singleton]
      intro q
      rw [q, hIg] at e
      cases e) (F'.keep b o e), F'.above⟩, fun p hp => ⟨hk p.1 p.2 (by simpa using hl p hp) (N' p hp).1, (N' p hp).2⟩⟩
  by_cases hlt : i < k
  · refine hW.item i (st s h' tk') _ _ hlt hst' fun v h₂ tk₂ hP hst₂ hk => ?_
    obtain ⟨F₂, N₂⟩ := keepF hk
    obtain ⟨oI, hoI, hoC⟩ := hsome _ _ hst₂
    have N₃ : News g c.L h₂ ((I, oI) :: l) := fun p hp => by
      rcases List.mem_cons.mp hp with rfl | hp
      · exact ⟨hoI, hI, hIg⟩
      · exact N₂ p hp
    refine wpAny_assign_Name (z_store S F₂ N₃ kx fun h₃ tk₃ F₃ N₄ => ?_)
    have hst₃ : St (i + 1) h₃ := hW.frame _ _ _ hst₂ fun b hb o e => by
      by_cases q : b = I
      · subst q
        rw [hoI] at e; cases e
        exact (N₄ _ (.head _)).1
      · rcases hfp b hb q with ⟨o', hg⟩ | ⟨o', hJ⟩
        · have e1 := F₂.keep b o' hg
          rw [e] at e1; cases e1
          exact F₃.keep b o hg
        · have e1 := (N₂ _ (hJ _ _ _ hj')).1
          rw [e] at e1; cases e1
          exact (N₄ _ (.tail _ (hJ _ _ _ hj'))).1
    refine wpAny_mono (turn i v h₃ tk₃ m' l oI hlt hP hoC F₃ N₄ hl hj') (fun f s₄ q => ?_) fun _ _ q => q.elim
    have fin : ForE W c g s I oI J i rest Q .next s₄ → ∃ r', r' < k - i ∧ Inv r' s₄ := by
      rintro ⟨h₄, tk₄, m₄, l₄, rfl, F₄, N₅, hmem, hJ⟩
      have hst₄ : St (i + 1) h₄ := hW.frame _ _ _ hst₃ fun b hb o e => by
        by_cases q : b = I
        · subst q
          have e1 := (N₄ _ (.head _)).1
          rw [e] at e1; cases e1
          exact (N₅ _ hmem).1
        · rcases hfp b hb q with ⟨o', hg⟩ | ⟨o', hJ'⟩
          · have e1 := F₃.keep b o' hg
            rw [e] at e1; cases e1
            exact F₄.keep b o hg
          · have e1 := (N₄ _ (.tail _ (hJ' _ _ _ hj'))).1
            rw [e] at e1; cases e1
            have := hJ' _ _ _ (hJ (l₄.filter fun p => decide (p.1 ≠ I)) fun p hp hn => List.mem_filter.mpr ⟨hp, decide_eq_true hn⟩)
            exact (N₅ _ (List.mem_filter.mp this).1).1
      exact ⟨k - (i + 1), by lia, i + 1, h₄, tk₄, m₄, _, rfl, by lia, rfl, F₄, news_minus N₅, fun p hp => of_decide_eq_true (List.mem_filter.mp hp).2, hst₄, hJ _ fun p hp hn => List.mem_filter.mpr ⟨hp, decide_eq_true hn⟩⟩
    cases f with
    | next => exact fin q
    | cont => exact fin q
    | brk => exact q
    | ret v => exact q
  · have hik' : i = k := by lia
    subst hik'
    refine hW.done (st s h' tk') _ _ hst' fun h₂ tk₂ hk => ?_
    obtain ⟨F₂, N₂⟩ := keepF hk
    exact wpAny_execs_nil (done h₂ tk₂ m' l F₂ N₂ hj')
end
end Mine
end
section
open PySem PySem.W PySem.Calls PySem.Spec PyProof.Rows
set_option Elab.async false
set_option maxRecDepth 100000
namespace Mine
section
variable {W : Wd} {base g h : Heap} {c : Cx} {sc : Scope} {n : Nat} {m : Str → Option Value} {news : Led} {s : Shared} {tk : Nat} {rest body : List Stmt} {Q : Flow → Shared → Prop} {x : Str} {px pos : Pos} {t : Tok}
theorem fresh_facts (F : Fr g c.L h m) (N : News g c.L h news) : h.objs.size ≠ c.L ∧ g.get? h.objs.size = none ∧ ∀ p ∈ news, p.1 ≠ h.objs.size := by
  obtain ⟨oL, _, _, hL, _⟩ := F.ns
  refine ⟨Nat.ne_of_gt (Heap.lt_size hL), ?_, fun p hp => Nat.ne_of_lt (Heap.lt_size (N p hp).1)⟩
  cases hq : g.get? h.objs.size with
  | none => rfl
  | some o' => exact absurd (Heap.lt_size (F.keep _ _ hq)) (Nat.lt_irrefl _)
theorem news_push (N : News g c.L h news) (o : Obj) : News g c.L (h.push o) news := fun p hp => ⟨Heap.get?_push_of_some _ (N p hp).1, (N p hp).2⟩
theorem for_str {cs : Cs} (J : Nat → (Str → Option Value) → Led → Prop) (S : Wk W base c g sc n) (kx : Lc sc x) (F : Fr g c.L h m) (N : News g c.L h news) (hj : J 0 m news)
    (turn : ∀ i k t h tk m' l I oI, cs[i]? = some k → (∀ p ∈ news, p.1 ≠ I) → Fr g c.L h (upd m' x (.str (strS [k]) t)) → News g c.L h ((I, oI) :: l) → (∀ p ∈ l, p.1 ≠ I) → J i m' l → wpAny W.M c.A (execs body c.env) (ForE W c g s I oI J i rest Q) NoE (st s h tk))
    (done : ∀ h tk m' l, Fr g c.L h m' → News g c.L h l → J cs.length m' l → wpAny W.M c.A (execs rest c.env) Q NoE (st s h tk)) :
    wpAny W.M c.A (pyIter (.str (strS cs) t)) (fun iv s₂ => ForK W c (.Name x px) iv body rest Q s₂) NoE (st s h tk) := by
  obtain ⟨f1, f2, f3⟩ := fresh_facts F N
  have hsz : (strS cs).cps.size = cs.length := by simp
  have go : ∀ (ty : String) (o : Obj) (W9 : Walks W.prog W.w c.A h.objs.size [h.objs.size] [h.objs.size] (strS cs).cps.size (SignAt (strS cs)) (fun i h' => h'.IsStrIter h.objs.size ty (strS cs) t i)),
      ty ≠ "tuple" → (h.push o).IsStrIter h.objs.size ty (strS cs) t 0 → ForK W c (.Name x px) (.ref h.objs.size) body rest Q (st s (h.push o) tk) := by
    intro ty o W9 hty hst
    refine for_walk J S kx W9 (F.push o) (news_push N o) hst f1 f2 f3 (fun b hb hn => absurd (List.mem_singleton.mp hb) hn) (fun i h' hs => ⟨_, hs.choose_spec.1, by rw [hs.choose_spec.2.1]; exact fun e => hty (Value.type.inj e)⟩) hj (fun i v h' tk' m' l oI hi hP _ F' N' hl hj' => ?_) (by rw [hsz]; exact done)
    obtain ⟨k, u, hk, rfl⟩ := hP
    exact turn i k u h' tk' m' l _ oI (by simpa using hk) f3 F' N' hl hj'
  cases ha : (strS cs).cps.all (· < 128)
  · exact wpAny_pyIter_wide ha (go _ _ (Walks.strWide rfl _ _ _) (by decide) ⟨_, Heap.get?_push_size _ rfl, rfl, rfl⟩)
  · exact wpAny_pyIter_ascii ha (go _ _ (Walks.strAscii rfl _ _ _) (by decide) ⟨_, Heap.get?_push_size _ rfl, rfl, rfl⟩)
theorem for_list {ax : Addr} {vs : List Value} {k : Nat} (J : Nat → (Str → Option Value) → Led → Prop) (S : Wk W base c g sc n) (kx : Lc sc x) (F : Fr g c.L h m) (N : News g c.L h news) (hax : (ax, listOf vs.toArray k) ∈ news) (hj : J 0 m news)
    (hJ : ∀ i m l, J i m l → (ax, listOf vs.toArray k) ∈ l)
    (turn : ∀ i v h tk m' l I oI, vs[i]? = some v → (∀ p ∈ news, p.1 ≠ I) → oI.cls ≠ .type "tuple" → Fr g c.L h (upd m' x v) → News g c.L h ((I, oI) :: l) → (∀ p ∈ l, p.1 ≠ I) → J i m' l → wpAny W.M c.A (execs body c.env) (ForE W c g s I oI J i rest Q) NoE (st s h tk))
    (done : ∀ h tk m' l, Fr g c.L h m' → News g c.L h l → J vs.length m' l → wpAny W.M c.A (execs rest c.env) Q NoE (st s h tk)) :
    wpAny W.M c.A (pyIter (.ref ax)) (fun iv s₂ => ForK W c (.Name x px) iv body rest Q s₂) NoE (st s h tk) := by
  obtain ⟨f1, f2, f3⟩ := fresh_facts F N
  have hl : (st s h tk).heap.IsList ax vs.toArray := ⟨_, (N _ hax).1, rfl, k, rfl⟩
  have hne : ax ≠ h.objs.size := f3 _ hax
  refine wpAny_pyIter_list hl ?_
  have W9 := Walks.list (prog := W.prog) (w := W.w) (A := c.A) rfl h.objs.size ax hne vs.toArray
  refine for_walk J S kx W9 (F.push _) (news_push N _) ⟨⟨_, Heap.get?_push_size _ rfl, rfl, rfl⟩, hl.push _⟩ f1 f2 f3 (fun b hb hn => .inr ⟨listOf vs.toArray k, fun i m l hj => ?_⟩) (fun i h' hs => ⟨_, hs.1.choose_spec.1, by rw [hs.1.choose_spec.2.1]; exact fun e => absurd (Value.type.inj e) (by decide)⟩) hj (fun i v h' tk' m' l oI hi hP hc F' N' hl hj' => ?_) (by rw [List.size_toArray]; exact done)
  · rcases List.mem_cons.mp hb with e | hb
    · exact absurd e hn
    · rw [List.mem_singleton.mp hb]; exact hJ i m l hj
  · exact turn i v h' tk' m' l _ oI (by simpa using hP) f3 hc F' N' hl hj'
theorem for_tup {ax : Addr} {vs : List Value} (J : Nat → (Str → Option Value) → Led → Prop) (S : Wk W base c g sc n) (kx : Lc sc x) (F : Fr g c.L h m) (N : News g c.L h news) (hax : (ax, tupOf vs) ∈ news) (hj : J 0 m news)
    (hJ : ∀ i m l, J i m l → (ax, tupOf vs) ∈ l)
    (turn : ∀ i v h tk m' l I oI, vs[i]? = some v → (∀ p ∈ news, p.1 ≠ I) → oI.cls ≠ .type "tuple" → Fr g c.L h (upd m' x v) → News g c.L h ((I, oI) :: l) → (∀ p ∈ l, p.1 ≠ I) → J i m' l → wpAny W.M c.A (execs body c.env) (ForE W c g s I oI J i rest Q) NoE (st s h tk))
    (done : ∀ h tk m' l, Fr g c.L h m' → News g c.L h l → J vs.length m' l → wpAny W.M c.A (execs rest c.env) Q NoE (st s h tk)) :
    wpAny W.M c.A (pyIter (.ref ax)) (fun iv s₂ => ForK W c (.Name x px) iv body rest Q s₂) NoE (st s h tk) := by
  obtain ⟨f1, f2, f3⟩ := fresh_facts F N
  have hl : (st s h tk).heap.IsTuple ax vs.toArray := ⟨_, (N _ hax).1, rfl, 0, rfl⟩
  have hne : ax ≠ h.objs.size := f3 _ hax
  refine wpAny_pyIter_tuple hl ?_
  have W9 := Walks.tuple (prog := W.prog) (w := W.w) (A := c.A) rfl h.objs.size ax hne vs.toArray
  refine for_walk J S kx W9 (F.push _) (news_push N _) ⟨⟨_, Heap.get?_push_size _ rfl, rfl, rfl⟩, hl.push _⟩ f1 f2 f3 (fun b hb hn => .inr ⟨tupOf vs, fun i m l hj => ?_⟩) (fun i h' hs => ⟨_, hs.1.choose_spec.1, by rw [hs.1.choose_spec.2.1]; exact fun e => absurd (Value.type.inj e) (by decide)⟩) hj (fun i v h' tk' m' l oI hi hP hc F' N' hl hj' => ?_) (by rw [List.size_toArray]; exact done)
  · rcases List.mem_cons.mp hb with e | hb
    · exact absurd e hn
    · rw [List.mem_singleton.mp hb]; exact hJ i m l hj
  · exact turn i v h' tk' m' l _ oI (by simpa using hP) f3 hc F' N' hl hj'
end
end Mine
end
section
open PySem PySem.W PySem.Calls PySem.Spec PyProof.Rows
set_option Elab.async false
set_option maxRecDepth 100000
namespace Mine
def Glue (vs : List Value) (cs : Cs) : Prop := ∃ ys : List Cs, StrsAre vs (ys.map fun y => strS y) ∧ ys.flatten = cs
theorem Glue.nil : Glue [] [] := ⟨[], .nil, rfl⟩
theorem Glue.push {vs : List Value} {cs p : Cs} {t : Tok} (h : Glue vs cs) : Glue (vs ++ [.str (strS p) t]) (cs ++ p) := by
  obtain ⟨ys, h1, h2⟩ := h
  refine ⟨ys ++ [p], ?_, by simp [h2]⟩
  rw [List.map_append]
  exact StrsAre.append' h1 (.cons _ t .nil)
def GL (U : Addr) (cs : Cs) (n : Nat) (news : Led) : Prop := ∃ vs k, (U, listOf vs.toArray k) ∈ news ∧ Glue vs cs ∧ vs.length ≤ n
theorem GL.mono {U : Addr} {cs : Cs} {n n' : Nat} {news : Led} (h : GL U cs n news) (hn : n ≤ n') : GL U cs n' news := by
  obtain ⟨vs, k, h1, h2, h3⟩ := h
  exact ⟨vs, k, h1, h2, Nat.le_trans h3 hn⟩
theorem GL.kp {U : Addr} {S : List Addr} {cs : Cs} {n : Nat} {news news' : Led} (h : GL U cs n news) (hU : U ∉ S) (k : Kp S news news') : GL U cs n news' := by
  obtain ⟨vs, k', h1, h2, h3⟩ := h
  exact ⟨vs, k', k _ h1 hU, h2, h3⟩
theorem GL.sub {U : Addr} {cs : Cs} {n : Nat} {news news' : Led} (h : GL U cs n news) (k : ∀ p ∈ news, p ∈ news') : GL U cs n news' := by
  obtain ⟨vs, k', h1, h2, h3⟩ := h
  exact ⟨vs, k', k _ h1, h2, h3⟩
theorem join_empty : ∀ ys : List Cs, Txt.join (Str.ofString "") (ys.map fun y => strS y) = strS ys.flatten := by
  have e0 : (Str.ofString "") = strS [] := by decide
  intro ys
  show Builtin.Str.glued (Str.ofString "") _ = _
  rw [PySem.StrLaws.glued_eq_join, e0]
  have key : ∀ (ys : List Cs), PySem.Str.join (strS []) (ys.map fun y => strS y) = strS ys.flatten := by
    intro ys
    induction ys with
    | nil => rfl
    | cons y r ih =>
      cases r with
      | nil => show strS y = strS ([y].flatten); simp
      | cons z r =>
        show strS y ++ strS [] ++ PySem.Str.join (strS []) ((z :: r).map fun y => strS y) = _
        rw [ih, strS_app, strS_app]
        simp
  exact key ys
theorem sum_len : ∀ ys : List Cs, ((ys.map fun y => strS y).map (·.length)).sum = ys.flatten.length
  | [] => rfl
  | y :: r => by rw [List.map_cons, List.map_cons, List.sum_cons, sum_len r, List.flatten_cons, List.length_append, strS_len]
section
variable {W : Wd} {base g h : Heap} {c : Cx} {sc : Scope} {n : Nat} {m : Str → Option Value} {news : Led} {s : Shared} {tk : Nat} {E : Value → Shared → Prop} {Q : Value → Shared → Prop} {cs p : Cs} {U : Addr} {b : Nat}
theorem z_join {t : Tok} (N : News g c.L h news) (G : GL U cs b news) (hl : cs.length ≤ 1000000) (hq : ∀ t tk', Q (.str (strS cs) t) (st s h tk')) :
    wpAny W.M c.A (call (.builtin "str.join") [.str (Str.ofString "") t, .ref U]) Q E (st s h tk) := by
  obtain ⟨vs, k, h1, ⟨ys, h2, h3⟩, _⟩ := G
  refine join_list (items := vs.toArray) ⟨_, (N _ h1).1, rfl, k, rfl⟩ h2 ?_ fun t' k' => ?_
  · rw [sum_len, h3]
    show cs.length + _ * 0 ≤ _
    lia
  · rw [join_empty, h3]; exact hq t' k'
theorem z_join' {U' : Addr} {t : Tok} (N : News g c.L h news) (G : GL U cs b news) (e : U' = U) (hl : cs.length ≤ 1000000) (hq : ∀ t tk', Q (.str (strS cs) t) (st s h tk')) :
    wpAny W.M c.A (call (.builtin "str.join") [.str (Str.ofString "") t, .ref U']) Q E (st s h tk) := by subst e; exact z_join N G hl hq
theorem z_glue {t : Tok} (F : Fr g c.L h m) (N : News g c.L h news) (G : GL U cs b news) (hb : b ≤ 1000000)
    (hq : ∀ h' tk' news', Fr g c.L h' m → News g c.L h' news' → GL U (cs ++ p) (b + 1) news' → (∀ q ∈ news, q.1 ≠ U → q ∈ news') → Q .none (st s h' tk')) :
    wpAny W.M c.A (call (.builtin "list.append") [.ref U, .str (strS p) t]) Q E (st s h tk) := by
  obtain ⟨vs, k, h1, h2, h3⟩ := G
  exact z_append F N h1 (by lia) fun h' tk' F' N' => hq h' tk' _ F' N' ⟨_, _, setA_new, h2.push, by rw [List.length_append]; simpa using h3⟩ fun q hq hn => setA_old hq hn
theorem m_glue {pl : Sem Bool} {Q : Value × List Value → Shared → Prop} (N : News g c.L h news) (G : GL U cs b news)
    (hq : Q (.builtin "list.append", [.ref U]) (st s h tk)) : wpAny W.M c.A (getMethod (.ref U) "append" pl) Q E (st s h tk) := by
  obtain ⟨vs, k, h1, h2, h3⟩ := G
  exact z_mapp N h1 hq
theorem z_glue0 {pos : Pos} (F : Fr g c.L h m) (N : News g c.L h news)
    (hq : ∀ U h' tk' news', Fr g c.L h' m → News g c.L h' news' → GL U [] 0 news' → (∀ p ∈ news, p ∈ news') → (∀ p ∈ news, p.1 ≠ U) → Q (.ref U) (st s h' tk')) :
    wpAny W.M c.A (eval (.List [] pos) c.env) Q E (st s h tk) := by
  refine PyProof.Rows.List_ (args_nil ?_)
  refine z_list (vs := []) F N (by decide) fun q h' tk' F' N' hne => hq q h' tk' _ F' N' ⟨[], 0, .head _, .nil, Nat.le_refl _⟩ (fun p hp => .tail _ hp) hne
theorem LexS.glued {A : Ad} {a : La} {i : Nat} {tk fl : List Dat} {news' : Led} {h' : Heap} {cu : Cs} {Lf : Addr} (N : News g Lf h' news) (L : LexS A a cs i tk fl news) (G : GL U cu b news) (hU : U ∉ a.S) (k : ∀ q ∈ news, q.1 ≠ U → q ∈ news') : LexS A a cs i tk fl news' := by
  obtain ⟨vs, k', h1, h2, h3⟩ := G
  exact L.drop N h1 hU k
theorem Kp.up {x : Addr} {S : List Addr} {l l' : Led} (h : Kp S l l') : Kp (x :: S) l l' := h.mono fun _ q => .tail _ q
theorem Kp.off {x : Addr} {S : List Addr} {l l' : Led} (h : Kp (x :: S) l l') (hx : ∀ p ∈ l, p.1 ∉ S → p.1 ≠ x) : Kp S l l' := fun p hp hn => h p hp fun e => by
  rcases List.mem_cons.mp e with e | e
  · exact hx p hp hn e
  · exact hn e
theorem Kp.of {S : List Addr} {l l' : Led} (h : ∀ p ∈ l, p ∈ l') : Kp S l l' := fun p hp _ => h p hp
theorem Kp.one {x : Addr} {S : List Addr} {l l' : Led} (h : ∀ p ∈ l, p.1 ≠ x → p ∈ l') : Kp (x :: S) l l' := fun p hp hn => h p hp fun e => hn (e ▸ .head _)
section
variable {W : Wd} {A : Ad} {a : La} {base g h : Heap} {c : Cx} {sc : Scope} {n : Nat} {m : Str → Option Value} {news : Led} {s : Shared} {tk' : Nat} {E : Value → Shared → Prop} {Q : Value → Shared → Prop} {cs cu p : Cs} {i : Nat} {tk fl : List Dat} {U : Addr} {b : Nat}
theorem z_glueL {t : Tok} (F : Fr g c.L h m) (N : News g c.L h news) (L : LexS A a cs i tk fl news) (G : GL U cu b news) (hU : U ∉ a.S) (hb : b ≤ 1000000)
    (hq : ∀ h' tk' news', Fr g c.L h' m → News g c.L h' news' → LexS A a cs i tk fl news' → GL U (cu ++ p) (b + 1) news' → Kp (U :: a.S) news news' → Q .none (st s h' tk')) :
    wpAny W.M c.A (call (.builtin "list.append") [.ref U, .str (strS p) t]) Q E (st s h tk') :=
  z_glue F N G hb fun h' tk' news' F' N' G' k => hq h' tk' news' F' N' (L.glued N G hU k) G' (Kp.one k)
theorem z_glue0L {pos : Pos} (F : Fr g c.L h m) (N : News g c.L h news) (L : LexS A a cs i tk fl news)
    (hq : ∀ U h' tk' news', Fr g c.L h' m → News g c.L h' news' → LexS A a cs i tk fl news' → GL U [] 0 news' → U ∉ a.S → Kp a.S news news' → (∀ p ∈ news, p.1 ≠ U) → Q (.ref U) (st s h' tk')) :
    wpAny W.M c.A (eval (.List [] pos) c.env) Q E (st s h tk') :=
  z_glue0 F N fun U h' tk' news' F' N' G k f => hq U h' tk' news' F' N' (L.keep k) G (L.fresh f) (Kp.of k) f
end
end
end Mine
end
section
open PySem PySem.W PySem.Calls PySem.Spec PyProof.Rows
set_option Elab.async false
set_option maxRecDepth 100000
namespace Mine
section
variable {W : Wd} {A : Around} {E : Value → Shared → Prop} {s : Shared} {h : Heap} {tk : Nat} {t u : Tok} {Q : Value → Shared → Prop} {a : Nat}
theorem n_shr10 (hq : ∀ t tk', Q (.int (a / 1024 : Nat) t) (st s h tk')) : wpAny W.M A (binaryOp .RShift (.int (a : Nat) t) (.int (10 : Nat) u)) Q E (st s h tk) :=
  rshift_int (by decide) (by
    have := hq tk (tk + 1)
    rw [Int.natCast_ediv, ← Int.fdiv_eq_ediv_of_nonneg _ (by lia)] at this
    exact this)
theorem n_and1023 (hq : ∀ t tk', Q (.int (a % 1024 : Nat) t) (st s h tk')) : wpAny W.M A (binaryOp .BitAnd (.int (a : Nat) t) (.int (1023 : Nat) u)) Q E (st s h tk) :=
  and_int (by
    have e : Builtin.bitAnd (a : Int) ((1023 : Nat) : Int) = ((a % 1024 : Nat) : Int) := by
      show ((a &&& 1023 : Nat) : Int) = _
      rw [show (1023 : Nat) = 2 ^ 10 - 1 by decide, Nat.and_two_pow_sub_one_eq_mod]
    rw [e]
    exact hq tk (tk + 1))
theorem d_shr10 (hq : Q (.int (a / 1024 : Nat) tk) (st s h (tk + 1))) : wpAny W.M A (binaryOp .RShift (.int (a : Nat) t) (.int (10 : Nat) u)) Q E (st s h tk) :=
  rshift_int (by decide) (by
    rw [Int.natCast_ediv, ← Int.fdiv_eq_ediv_of_nonneg _ (by lia)] at hq
    exact hq)
theorem d_and1023 (hq : Q (.int (a % 1024 : Nat) tk) (st s h (tk + 1))) : wpAny W.M A (binaryOp .BitAnd (.int (a : Nat) t) (.int (1023 : Nat) u)) Q E (st s h tk) :=
  and_int (by
    have e : Builtin.bitAnd (a : Int) ((1023 : Nat) : Int) = ((a % 1024 : Nat) : Int) := by
      show ((a &&& 1023 : Nat) : Int) = _
      rw [show (1023 : Nat) = 2 ^ 10 - 1 by decide, Nat.and_two_pow_sub_one_eq_mod]
    rw [e]
    exact hq)
theorem units_take {cs : Cs} {i k : Nat} (h : cs[i]? = some k) : units (cs.take (i + 1)) = units (cs.take i) ++ unit1 k := by
  have hlt : i < cs.length := (List.getElem?_eq_some_iff.mp h).1
  rw [List.take_succ_eq_append_getElem hlt, (List.getElem?_eq_some_iff.mp h).2]
  simp [units]
theorem units_len : ∀ cs : Cs, (units cs).length ≤ 2 * cs.length
  | [] => Nat.le_refl _
  | c :: r => by
    have := units_len r
    simp only [units, List.flatMap_cons, List.length_append, List.length_cons] at this ⊢
    have h1 : (unit1 c).length ≤ 2 := by unfold unit1; split <;> simp
    lia
end
section
variable {W : Wd} {A : Ad} {a : La} {news : Led} {cs : Cs} {i : Nat} {tk fl : List Dat}
theorem ct_units_of (KF : Kf W A) {t : Tok} (hl : cs.length ≤ 100000) (hc : ∀ c ∈ cs, c < 1114112) :
    Ct W A.units_of [.str (strS cs) t] 1 news (fun r l => (∃ t, r = .str (strS (units cs)) t) ∧ ∀ p ∈ news, p ∈ l) := by
  have hul := units_len cs
  with_reducible refine enter KF.d_units_of.fn (fun _ _ _ _ _ _ => by kernel_rfl) (locs (by kernel_rfl)) (by kernel_rfl) (by kernel_rfl) (by kernel_rfl) (of_decide_eq_true (by kernel_rfl)) ?_
  intro c base g m s h tk₀ S F N hm
  have hm_text : m ("text" : Str) = some _ := (hm _).trans rfl
  clear hm
  have kl_text : Lc (dScope (defAt 41)) "text" := ⟨by kernel_rfl, by kernel_rfl⟩
  have kl_units : Lc (dScope (defAt 41)) "units" := ⟨by kernel_rfl, by kernel_rfl⟩
  have kl_letter : Lc (dScope (defAt 41)) "letter" := ⟨by kernel_rfl, by kernel_rfl⟩
  have kl_number : Lc (dScope (defAt 41)) "number" := ⟨by kernel_rfl, by kernel_rfl⟩
  have kg_ord : Gb (dScope (defAt 41)) "ord" := ⟨by kernel_rfl, by kernel_rfl⟩
  have kg_chr : Gb (dScope (defAt 41)) "chr" := ⟨by kernel_rfl, by kernel_rfl⟩
  show wpAny _ _ (execs (_ :: _) _) _ _ _
  with_reducible
   refine x_assign ?_ (by k_dflt exact rfl)
   refine z_glue0 ‹_› ‹_› ?_; intro _ _ _ _ _ _ _ _ _
   refine z_store ‹_› ‹_› ‹_› ‹_› ?_; intro _ _ _ _
  rename_i U h₁ tk₁ news₁ F₁ N₁ G₁ K₁ U₁ h₂ tk₂ F₂ N₂
  with_reducible refine x_for ?_ (fun _ => by with_unfolding_all rfl)
  with_reducible refine z_local ‹_› ‹_› ‹_› (by tb_start) ?_
  have G₂ : GL U [] 0 news₁ := G₁
  with_reducible refine for_str (fun i m' l => m' ("units" : Str) = some (.ref U) ∧ GL U (units (cs.take i)) (2 * i) l ∧ (∀ p ∈ news, p ∈ l)) (by assumption) (by assumption) F₂ N₂ ?_ ?_ ?_
  · exact ⟨by tb_start, G₁, K₁⟩
  · rintro i k t₃ h₃ tk₃ m₃ l₃ I oI hk hf₃ F₃ N₃ hfr ⟨hm, G, K⟩
    have hkc : k < 1114112 := hc k (List.mem_of_getElem? hk)
    have hil : i < cs.length := (List.getElem?_eq_some_iff.mp hk).1
    have G' : GL U (units (cs.take i)) (2 * i) ((I, oI) :: l₃) := G.sub fun p hp => .tail _ hp
    have hUI : I ≠ U := by
      obtain ⟨vs, k', h1, _⟩ := G
      exact fun e => hfr _ h1 e.symm
    have hb1 : 2 * i ≤ 1000000 := by lia
    have hb2 : 2 * i + 1 ≤ 1000000 := by lia
    have fin : ∀ {l' : Led} {b : Nat}, GL U (units (cs.take i) ++ unit1 k) b l' → b ≤ 2 * (i + 1) → (∀ q ∈ (I, oI) :: l₃, q.1 ≠ U → q ∈ l') →
        (I, oI) ∈ l' ∧ ∀ l'' : Led, (∀ p ∈ l', p.1 ≠ I → p ∈ l'') → GL U (units (cs.take (i + 1))) (2 * (i + 1)) l'' ∧ (∀ p ∈ news, p ∈ l'') := by
      rintro l' b G' hb' hk'
      refine ⟨hk' _ (.head _) hUI, fun l'' hl'' => ⟨?_, fun p hp => hl'' p (hk' p (.tail _ (K p hp)) (U₁ p hp)) (hfr p (K p hp))⟩⟩
      rw [units_take hk]
      obtain ⟨vs, k', q1, q2, q3⟩ := G'
      exact ⟨vs, k', hl'' _ q1 (Ne.symm hUI), q2, Nat.le_trans q3 hb'⟩
    clear hm_text
    by_cases hb : 65535 < k
    · have f1 : decide (65535 < k) = true := decide_eq_true hb
      have e1 : unit1 k = [55296 + (k - 65536) / 1024] ++ [56320 + (k - 65536) % 1024] := if_neg (by lia)
      rw [e1, ← List.append_assoc] at fin
      with_reducible
       refine x_assign ?_ (by k_dflt exact rfl)
       refine e_built ‹_› ‹_› ‹_› (Kf.b_ord ‹_›) boot_ord (by decide) ?_ (by k_dflt exact rfl)
       refine z_local ‹_› ‹_› ‹_› (by tb_start) ?_
       refine d_ordS ?_
       refine z_store ‹_› ‹_› ‹_› ‹_› ?_; intro _ _ _ _
       refine x_if ?_
       refine t_cmpN ‹_› ‹_› ‹_› (by tb_start) ?_ (by with_unfolding_all rfl)
       refine n_gt ?_
       refine Exists.intro _ (And.intro rfl ?_)
       refine dec_tt ‹_› ?_
       refine x_app ?_
       refine x_augN ?_
       refine z_load ‹_› ‹_› ‹_› (by tb_start) ?_
       refine d_num ?_
       refine d_isub (by lia) ?_
       refine z_store ‹_› ‹_› ‹_› ‹_› ?_; intro _ _ _ _
       refine x_app ?_
       refine z_expr ‹_› ?_ (by k_dflt exact rfl)
       refine PyProof.Rows.MethodCall_ ?_ (by k_dflt exact rfl)
       refine z_local ‹_› ‹_› ‹_› (by tb_start) ?_
       refine m_glue ‹_› ‹_› ?_
       refine PyProof.Rows.callWith_method1 ?_ (by k_dflt exact rfl) (by k_dflt exact rfl)
       refine z_args ?_ (by k_dflt exact rfl)
       refine e_built ‹_› ‹_› ‹_› (Kf.b_chr ‹_›) boot_chr (by decide) ?_ (by k_dflt exact rfl)
       refine PySem.wpAny_BinOp ?_
       refine d_num ?_
       refine e_binN ‹_› ‹_› ‹_› (by tb_start) ?_
       refine d_shr10 ?_
       refine d_add ?_
       refine d_chr (by first | with_reducible assumption | lia) ?_
       refine z_args0 ?_
       refine call_app1 ?_
       refine z_glue ‹_› ‹_› ‹_› ‹_› ?_; intro _ _ _ _ _ _ _
       refine x_app ?_
       refine z_expr ‹_› ?_ (by k_dflt exact rfl)
       refine PyProof.Rows.MethodCall_ ?_ (by k_dflt exact rfl)
       refine z_local ‹_› ‹_› ‹_› (by tb_start) ?_
       refine m_glue ‹_› ‹_› ?_
       refine PyProof.Rows.callWith_method1 ?_ (by k_dflt exact rfl) (by k_dflt exact rfl)
       refine z_args ?_ (by k_dflt exact rfl)
       refine e_built ‹_› ‹_› ‹_› (Kf.b_chr ‹_›) boot_chr (by decide) ?_ (by k_dflt exact rfl)
       refine PySem.wpAny_BinOp ?_
       refine d_num ?_
       refine e_binN ‹_› ‹_› ‹_› (by tb_start) ?_
       refine d_and1023 ?_
       refine d_add ?_
       refine d_chr (by first | with_reducible assumption | lia) ?_
       refine z_args0 ?_
       refine call_app1 ?_
       refine z_glue ‹_› ‹_› ‹_› ‹_› ?_; intro _ _ _ _ _ _ _
       refine x_app0 ?_
       refine x_nil ?_
      rename_i F₄ N₄ G₄ k₄ _ _ l₅ F₅ N₅ G₅ k₅
      obtain ⟨q1, q2⟩ := fin G₅ (by lia) fun q h1 h2 => k₅ q (k₄ q h1 h2) h2
      with_reducible refine for_next F₅ N₅ q1 fun l'' hl'' => ?_
      exact ⟨by tb_start, q2 l'' hl''⟩
    · have f1 : decide (65535 < k) = false := decide_eq_false hb
      have e1 : unit1 k = [k] := if_pos (by lia)
      rw [e1] at fin
      with_reducible
       refine x_assign ?_ (by k_dflt exact rfl)
       refine e_built ‹_› ‹_› ‹_› (Kf.b_ord ‹_›) boot_ord (by decide) ?_ (by k_dflt exact rfl)
       refine z_local ‹_› ‹_› ‹_› (by tb_start) ?_
       refine d_ordS ?_
       refine z_store ‹_› ‹_› ‹_› ‹_› ?_; intro _ _ _ _
       refine x_if ?_
       refine t_cmpN ‹_› ‹_› ‹_› (by tb_start) ?_ (by with_unfolding_all rfl)
       refine n_gt ?_
       refine Exists.intro _ (And.intro rfl ?_)
       refine dec_ff ‹_› ?_
       refine x_app ?_
       refine z_expr ‹_› ?_ (by k_dflt exact rfl)
       refine PyProof.Rows.MethodCall_ ?_ (by k_dflt exact rfl)
       refine z_local ‹_› ‹_› ‹_› (by tb_start) ?_
       refine m_glue ‹_› ‹_› ?_
       refine PyProof.Rows.callWith_method1 ?_ (by k_dflt exact rfl) (by k_dflt exact rfl)
       refine z_args ?_ (by k_dflt exact rfl)
       refine z_local ‹_› ‹_› ‹_› (by tb_start) ?_
       refine z_args0 ?_
       refine call_app1 ?_
       refine z_glue ‹_› ‹_› ‹_› ‹_› ?_; intro _ _ _ _ _ _ _
       refine x_app0 ?_
       refine x_nil ?_
      rename_i l₅ F₅ N₅ G₅ k₅
      obtain ⟨q1, q2⟩ := fin G₅ (by lia) k₅
      with_reducible refine for_next F₅ N₅ q1 fun l'' hl'' => ?_
      exact ⟨by tb_start, q2 l'' hl''⟩
  · rintro h₃ tk₃ m₃ l₃ F₃ N₃ ⟨hm, G, K⟩
    rw [List.take_length] at G
    with_reducible
     refine x_ret ?_
     refine PyProof.Rows.MethodCall_ ?_ (by k_dflt exact rfl)
     refine d_str ?_
     refine GM.join ?_
     refine PyProof.Rows.callWith_method1 ?_ (by k_dflt exact rfl) (by k_dflt exact rfl)
     refine z_args ?_ (by k_dflt exact rfl)
     refine z_local ‹_› ‹_› ‹_› (by tb_start) ?_
     refine z_args0 ?_
     refine call_app1 ?_
     refine z_join ‹_› ‹_› (by first | with_reducible assumption | lia) ?_; intro _ _
     refine z_done ‹_› ‹_› ?_
    exact ⟨⟨_, rfl⟩, K⟩
end
section
variable {W : Wd} {A : Ad} {a : La} {base g h : Heap} {c : Cx} {sc : Scope} {n : Nat} {m : Str → Option Value} {news : Led} {s : Shared} {tk' : Nat} {E : Value → Shared → Prop} {Q : Value → Shared → Prop} {cs cu p : Cs} {i : Nat} {tk fl : List Dat} {U : Addr} {b k : Nat} {t : Tok}
theorem u_units (S : Wk W base c g sc n) (F : Fr g c.L h m) (N : News g c.L h news) (KF : Kf W A) (L : LexS A a cs i tk fl news) (hl : p.length ≤ 100000) (hc : ∀ c ∈ p, c < 1114112) (hn : 1 ≤ n)
    (hq : ∀ t h' tk' news', Fr g c.L h' m → News g c.L h' news' → LexS A a cs i tk fl news' → Kp a.S news news' → Q (.str (strS (units p)) t) (st s h' tk')) : wpAny W.M c.A (call (.ref A.units_of) [.str (strS p) t]) Q E (st s h tk') :=
  z_use S F N (ct_units_of KF hl hc) hn fun r l h' tk' F' N' q => by obtain ⟨⟨t, rfl⟩, K'⟩ := q; exact hq t h' tk' l F' N' (L.keep K') (Kp.of K')
theorem u_unitsG (S : Wk W base c g sc n) (F : Fr g c.L h m) (N : News g c.L h news) (KF : Kf W A) (L : LexS A a cs i tk fl news) (G : GL U cu b news) (hk : k < 1114112) (hn : 1 ≤ n) (hu : unit1 k = p)
    (hq : ∀ t h' tk' news', Fr g c.L h' m → News g c.L h' news' → LexS A a cs i tk fl news' → GL U cu b news' → Kp a.S news news' → Q (.str (strS p) t) (st s h' tk')) : wpAny W.M c.A (call (.ref A.units_of) [.str (ch (some k)) t]) Q E (st s h tk') :=
  z_use S F N (ct_units_of (cs := [k]) KF (Nat.le_of_ble_eq_true rfl) (fun c hc => by rw [List.mem_singleton.mp hc]; exact hk)) hn fun r l h' tk' F' N' q => by
    obtain ⟨⟨t, rfl⟩, K'⟩ := q
    have e : units [k] = p := by rw [← hu]; simp [units]
    rw [e]
    exact hq t h' tk' l F' N' (L.keep K') (G.sub K') (Kp.of K')
theorem u_units1 (S : Wk W base c g sc n) (F : Fr g c.L h m) (N : News g c.L h news) (KF : Kf W A) (L : LexS A a cs i tk fl news) (hk : k < 1114112) (hn : 1 ≤ n) (hu : unit1 k = p)
    (hq : ∀ t h' tk' news', Fr g c.L h' m → News g c.L h' news' → LexS A a cs i tk fl news' → Kp a.S news news' → Q (.str (strS p) t) (st s h' tk')) : wpAny W.M c.A (call (.ref A.units_of) [.str (ch (some k)) t]) Q E (st s h tk') :=
  z_use S F N (ct_units_of (cs := [k]) KF (Nat.le_of_ble_eq_true rfl) (fun c hc => by rw [List.mem_singleton.mp hc]; exact hk)) hn fun r l h' tk' F' N' q => by
    obtain ⟨⟨t, rfl⟩, K'⟩ := q
    have e : units [k] = p := by rw [← hu]; simp [units]
    rw [e]
    exact hq t h' tk' l F' N' (L.keep K') (Kp.of K')
theorem z_neSL {a b : Cs} {y : Str} {u : Tok} {A : Around} (hy : y = strS b) (hq : Q (.bool (!decide (a = b))) (st s h tk')) : wpAny W.M A (compareOp .NotEq (.str (strS a) t) (.str y u)) Q E (st s h tk') := by
  subst hy
  exact P.ne_str (by
    have : ((strS a).cps.toList != (strS b).cps.toList) = !decide (a = b) := by rw [strS_list, strS_list]; by_cases e : a = b <;> simp [e, bne]
    rw [this]; exact hq)
theorem cut_snoc {cs : Cs} {i j k : Nat} (hij : i ≤ j) (h : cs[j]? = some k) : cut cs i (j + 1) = cut cs i j ++ [k] := by
  have hlt : j < cs.length := (List.getElem?_eq_some_iff.mp h).1
  unfold cut
  rw [show j + 1 - i = (j - i) + 1 by lia, List.take_succ_eq_append_getElem (by rw [List.length_drop]; lia)]
  congr 1
  rw [List.getElem_drop]
  simp only [show i + (j - i) = j by lia]
  rw [(List.getElem?_eq_some_iff.mp h).2]
theorem cut_none {cs : Cs} {i : Nat} : cut cs i i = [] := by simp [cut]
theorem units_app {x y : Cs} : units (x ++ y) = units x ++ units y := by simp [units]
theorem units_one {k : Nat} : units [k] = unit1 k := by simp [units]
end
end Mine
end
section
open PySem PySem.W PySem.Calls PySem.Spec PyProof.Rows
set_option Elab.async false
set_option maxRecDepth 100000
set_option maxHeartbeats 2000000
namespace Mine
section
variable {W : Wd} {A : Ad} {a : La} {news : Led} {cs : Cs} {i : Nat} {tk fl : List Dat}
theorem ct_read_text (KF : Kf W A) (L : LexS A a cs i tk fl news) (hl : cs.length ≤ 100000) (hz : tk.length ≤ 100000) {j : Nat} (hij : i + 1 ≤ j) (hx : ∀ k, i + 1 ≤ k → k < j → ∃ c, cs[k]? = some c ∧ c ≠ 34 ∧ c ≠ 92 ∧ lineEnd c = false ∧ c < 1114112) (hj : cs[j]? = some 34) :
    Ct W A.read_text [.ref a.lx] 3 news (fun r l => r = .none ∧ LexS A a cs (j + 1) (tk ++ [tokD 4 (strD (units (cut cs (i + 1) j))) i]) fl l ∧ Kp a.S news l) := by
  have hjl : j < cs.length := (List.getElem?_eq_some_iff.mp hj).1
  with_reducible refine enter KF.d_read_text.fn (fun _ _ _ _ _ _ => by kernel_rfl) (locs (by kernel_rfl)) (by kernel_rfl) (by kernel_rfl) (by kernel_rfl) (of_decide_eq_true (by kernel_rfl)) ?_
  intro c base g m s h tk₀ S F N hm
  have hm_lx : m ("lx" : Str) = some _ := (hm _).trans rfl
  clear hm
  have kl_lx : Lc (dScope (defAt 42)) "lx" := ⟨by kernel_rfl, by kernel_rfl⟩
  have kl_begin : Lc (dScope (defAt 42)) "begin" := ⟨by kernel_rfl, by kernel_rfl⟩
  have kl_letters : Lc (dScope (defAt 42)) "letters" := ⟨by kernel_rfl, by kernel_rfl⟩
  have kl_c : Lc (dScope (defAt 42)) "c" := ⟨by kernel_rfl, by kernel_rfl⟩
  have kg_TK_TEXT : Gb (dScope (defAt 42)) "TK_TEXT" := ⟨by kernel_rfl, by kernel_rfl⟩
  obtain ⟨ti_TK_TEXT, gg_TK_TEXT⟩ := KF.i_TK_TEXT
  have kg_is_line_end : Gb (dScope (defAt 42)) "is_line_end" := ⟨by kernel_rfl, by kernel_rfl⟩
  have kk_is_line_end := KF.d_is_line_end.keep
  have gg_is_line_end := KF.g_is_line_end
  have kg_read_escape : Gb (dScope (defAt 42)) "read_escape" := ⟨by kernel_rfl, by kernel_rfl⟩
  have kg_units_of : Gb (dScope (defAt 42)) "units_of" := ⟨by kernel_rfl, by kernel_rfl⟩
  have kk_units_of := KF.d_units_of.keep
  have gg_units_of := KF.g_units_of
  have kk_put := KF.m_put.keep
  have kk_here := KF.m_here.keep
  have kk_fault := KF.m_fault.keep
  show wpAny _ _ (execs (_ :: _) _) _ _ _
  with_reducible
   refine x_assign ?_ (by k_dflt exact rfl)
   refine z_aAt ‹_› ‹_› ‹_› ‹_› (by tb_start) ‹_› ‹_› ?_; intro _ _
   refine z_store ‹_› ‹_› ‹_› ‹_› ?_; intro _ _ _ _
   refine x_augAtK ‹_› ‹_› ‹_› ‹_› (by tb_start) ‹_› ‹_› ?_; intro _ _ _ _ _ _ _
   refine x_assign ?_ (by k_dflt exact rfl)
   refine z_glue0L ‹_› ‹_› ‹_› ?_; intro _ _ _ _ _ _ _ _ _ _ _
   refine z_store ‹_› ‹_› ‹_› ‹_› ?_; intro _ _ _ _
  rename_i K₀ U h₁ tk₁ news₁ F₁ N₁ L₁ G₁ hU K₁ U₁ h₂ tk₂ F₂ N₂
  with_reducible refine x_while (fun n m' l => ∃ i' t, i + 1 ≤ i' ∧ i' + n = j ∧ m' ("lx" : Str) = some (.ref a.lx) ∧ m' ("begin" : Str) = some (.int (i : Nat) t) ∧ m' ("letters" : Str) = some (.ref U) ∧ LexS A a cs i' tk fl l ∧ GL U (units (cut cs (i + 1) i')) (i' - (i + 1)) l ∧ Kp (U :: a.S) news₁ l) (j - (i + 1)) F₂ N₂ ?_ ?_
  · exact ⟨i + 1, _, Nat.le_refl _, by lia, by tb_start, by tb_start, by tb_start, by assumption, by rw [cut_none, Nat.sub_self]; exact G₁, Kp.refl⟩
  · rintro n h tk' m' l F N ⟨i', t, h1, h2, hm1, hm2, hm3, L, G, K⟩
    clear hm_lx
    cases n with
    | zero =>
      obtain rfl : i' = j := by lia
      have hz1 : (units (cut cs (i + 1) i')).length ≤ 1000000 := by
        have := units_len (cut cs (i + 1) i')
        have : (cut cs (i + 1) i').length ≤ cs.length := by simp only [List.length_take, List.length_drop]; lia
        lia
      with_reducible
       refine t_here ‹_› ‹_› ‹_› ‹_› ‹_› ‹_› (by k_dflt decide) (by first | with_reducible assumption | k_dflt exact rfl) ‹_› (by tb_start) ?_ (by with_unfolding_all rfl) (by k_dflt exact rfl); intro _ _ _ _ _
       refine z_nec lit34 ?_
       refine Exists.intro _ (And.intro rfl ?_)
       refine dec_ff (by k_dflt exact rfl) ?_
       refine x_if ?_
       refine t_here ‹_› ‹_› ‹_› ‹_› ‹_› ‹_› (by k_dflt decide) (by first | with_reducible assumption | k_dflt exact rfl) ‹_› (by tb_start) ?_ (by with_unfolding_all rfl) (by k_dflt exact rfl); intro _ _ _ _ _
       refine z_eqc lit34 ?_
       refine Exists.intro _ (And.intro rfl ?_)
       refine dec_tt (by k_dflt exact rfl) ?_
       refine x_app ?_
       refine x_augAtK ‹_› ‹_› ‹_› ‹_› (by tb_start) ‹_› ‹_› ?_; intro _ _ _ _ _ _ _
       refine x_app0 ?_
       refine z_expr ‹_› ?_ (by k_dflt exact rfl)
       refine PyProof.Rows.MethodCall_ ?_ (by k_dflt exact rfl)
       refine z_local ‹_› ‹_› ‹_› (by tb_start) ?_
       refine m_lex ‹_› ‹_› ‹_› ‹_› ‹_› (Kf.m_put ‹_›) mem_here.2.2.1 ?_
       refine z_mcall ‹_› ‹_› ?_ (by k_dflt exact rfl) (by k_dflt exact rfl)
       refine z_args ?_ (by k_dflt exact rfl)
       refine z_global ‹_› ‹_› ‹_› ‹_› ?_
       refine z_args ?_ (by k_dflt exact rfl)
       refine PyProof.Rows.MethodCall_ ?_ (by k_dflt exact rfl)
       refine d_str ?_
       refine GM.join ?_
       refine PyProof.Rows.callWith_method1 ?_ (by k_dflt exact rfl) (by k_dflt exact rfl)
       refine z_args ?_ (by k_dflt exact rfl)
       refine z_local ‹_› ‹_› ‹_› (by tb_start) ?_
       refine z_args0 ?_
       refine call_app1 ?_
       refine z_join ‹_› (by first | with_reducible assumption | exact GL.kp ‹_› ‹_› ‹_›) (by first | with_reducible assumption | lia) ?_; intro _ _
       refine z_args ?_ (by k_dflt exact rfl)
       refine z_local ‹_› ‹_› ‹_› (by tb_start) ?_
       refine z_args0 ?_
       refine And.intro (Exists.intro _ ‹_›) ?_
       refine u_put ‹_› ‹_› ‹_› ‹_› ‹_› ‹_› (by k_dflt decide) (by first | with_reducible assumption | ((with_reducible show Apart _ _ (Value.str _ _) _); with_reducible exact Apart.str) | ((with_reducible show Apart _ _ (Value.int _ _) _); with_reducible exact Apart.int)) ?_; intro _ _ _ _ _ _ _
       refine x_nil ?_
       refine z_end ‹_› ‹_› ?_
      exact ⟨rfl, by assumption, by
        refine Kp.off (x := U) ?_ fun p hp hn => U₁ p (K₀ p hp hn)
        refine Kp.trans (Kp.up K₀) (Kp.trans (Kp.up K₁) (Kp.trans K (Kp.up ?_)))
        lcg_sub⟩
    | succ n =>
      obtain ⟨e, he, e1, e2, e3, e4⟩ := hx i' h1 (by lia)
      have f1 : (!decide (some e = some 34)) = true := by rw [decide_eq_false fun q => e1 (Option.some.inj q)]; rfl
      have f2 : decide (some e = some 92) = false := decide_eq_false fun q => e2 (Option.some.inj q)
      have f3 : leO2 (some e) = false := e3
      have hb : i' - (i + 1) ≤ 1000000 := by lia
      with_reducible
       refine t_here ‹_› ‹_› ‹_› ‹_› ‹_› ‹_› (by k_dflt decide) (by first | with_reducible assumption | k_dflt exact rfl) ‹_› (by tb_start) ?_ (by with_unfolding_all rfl) (by k_dflt exact rfl); intro _ _ _ _ _
       refine z_nec lit34 ?_
       refine Exists.intro _ (And.intro rfl ?_)
       refine dec_tt ‹_› ?_
       refine x_assign ?_ (by k_dflt exact rfl)
       refine e_here ‹_› ‹_› ‹_› ‹_› ‹_› ‹_› (by k_dflt decide) (by first | with_reducible assumption | k_dflt exact rfl) ‹_› (by tb_start) ?_ (by k_dflt exact rfl); intro _ _ _ _ _
       refine z_store ‹_› ‹_› ‹_› ‹_› ?_; intro _ _ _ _
       refine x_if ?_
       refine t_or ?_
       refine t_cmpS ‹_› ‹_› ‹_› (by tb_start) ?_ (by with_unfolding_all rfl)
       refine z_eq0 lit_nil ?_
       refine Exists.intro _ (And.intro rfl ?_)
       refine dec_ff (by k_dflt exact rfl) ?_
       refine t_or ?_
       refine t_call ?_
       refine e_call1 ‹_› ‹_› ‹_› ‹_› ‹_› ‹_› (by tb_start) ?_
       refine u_is_line_end ‹_› ‹_› ‹_› ‹_› (by k_dflt decide) ?_; intro _ _ _ _
       refine Exists.intro _ (And.intro rfl ?_)
       refine dec_ff ‹_› ?_
       refine PyProof.Rows.isTrue_or_nil ?_
       refine both_ff ?_
       refine x_app0 ?_
       refine x_if ?_
       refine t_cmpS ‹_› ‹_› ‹_› (by tb_start) ?_ (by with_unfolding_all rfl)
       refine z_eqc lit92 ?_
       refine Exists.intro _ (And.intro rfl ?_)
       refine dec_ff ‹_› ?_
       refine x_app ?_
       refine z_expr ‹_› ?_ (by k_dflt exact rfl)
       refine PyProof.Rows.MethodCall_ ?_ (by k_dflt exact rfl)
       refine z_local ‹_› ‹_› ‹_› (by tb_start) ?_
       refine m_glue ‹_› (by first | with_reducible assumption | exact GL.kp ‹_› ‹_› ‹_›) ?_
       refine PyProof.Rows.callWith_method1 ?_ (by k_dflt exact rfl) (by k_dflt exact rfl)
       refine z_args ?_ (by k_dflt exact rfl)
       refine e_call1 ‹_› ‹_› ‹_› ‹_› ‹_› ‹_› (by tb_start) ?_
       refine u_unitsG ‹_› ‹_› ‹_› ‹_› ‹_› ‹_› ‹_› (by k_dflt decide) (by first | with_reducible assumption | k_dflt exact rfl) ?_; intro _ _ _ _ _ _ _ _ _
       refine z_args0 ?_
       refine call_app1 ?_
       refine z_glueL ‹_› ‹_› ‹_› (by first | with_reducible assumption | exact GL.kp ‹_› ‹_› ‹_›) ‹_› (by first | with_reducible assumption | lia) ?_; intro _ _ _ _ _ _ _ _
       refine x_app ?_
       refine x_augAtK ‹_› ‹_› ‹_› ‹_› (by tb_start) ‹_› ‹_› ?_; intro _ _ _ _ _ _ _
       refine x_app0 ?_
       refine x_nil ?_
      rename_i GG KK _ _ _ _ _ _ _
      with_reducible refine loop_next (k := n) (by assumption) (by assumption) (Nat.lt_succ_self _) ?_
      refine ⟨i' + 1, t, by lia, by lia, by tb_start, by tb_start, by tb_start, by assumption, ?_, ?_⟩
      · rw [cut_snoc (by lia) he, units_app, units_one]
        exact (GL.kp (by assumption) hU (by assumption)).mono (by lia)
      · refine Kp.trans K (Kp.trans (Kp.up (by assumption)) (Kp.trans (by assumption) (Kp.up (by assumption))))
theorem ct_read_verbatim (KF : Kf W A) (L : LexS A a cs i tk fl news) (hl : cs.length ≤ 100000) (hz : tk.length ≤ 100000) {j : Nat} (hij : i + 2 ≤ j) (hx : ∀ k, i + 2 ≤ k → k < j → cs[k]? ≠ some 34) (hc : ∀ c ∈ cs, c < 1114112)
    (hj : cs[j]? = some 34) (hj1 : cs[j + 1]? = some 34) (hj2 : cs[j + 2]? = some 10) (hj3 : cs[j + 3]? = some 34) (hj4 : decide (cs[j + 4]? = some 34) = false) :
    Ct W A.read_verbatim [.ref a.lx] 3 news (fun r l => r = .none ∧ LexS A a cs (j + 4) (tk ++ [tokD 4 (strD (units (cut cs (i + 2) j) ++ [34, 10])) i]) fl l ∧ Kp a.S news l) := by
  have hjl : j < cs.length := (List.getElem?_eq_some_iff.mp hj).1
  have hjl3 : j + 3 < cs.length := (List.getElem?_eq_some_iff.mp hj3).1
  have hlen : (cut cs (i + 2) j).length + 4 ≤ cs.length := by simp only [List.length_take, List.length_drop]; lia
  have hall : ∀ c ∈ cut cs (i + 2) j ++ [34] ++ [10], c < 1114112 := by
    intro c h
    rcases List.mem_append.mp h with h | h
    · rcases List.mem_append.mp h with h | h
      · exact hc c (List.mem_of_mem_drop (List.mem_of_mem_take h))
      · rw [List.mem_singleton.mp h]; decide
    · rw [List.mem_singleton.mp h]; decide
  have hcut : cut cs (j + 2) (j + 3) = [10] := by rw [cut_snoc (by lia) hj2, cut_none]; rfl
  have hun : units (cut cs (i + 2) j ++ [34] ++ [10]) = units (cut cs (i + 2) j) ++ [34, 10] := by
    rw [units_app, units_app, List.append_assoc]; rfl
  have hln : (cut cs (i + 2) j ++ [34] ++ [10]).length ≤ 100000 := by
    simp only [List.length_append, List.length_cons, List.length_nil]; lia
  have hln' : (cut cs (i + 2) j ++ [34] ++ [10]).length ≤ 1000000 := by lia
  have hle2 : j + 2 ≤ j + 3 := by lia
  have hx2 : ∀ k, j + 2 ≤ k → k < j + 3 → cs[k]? ≠ some 34 := by
    intro k h1 h2
    obtain rfl : k = j + 2 := by lia
    rw [hj2]; decide
  have f9 : (!decide (cs[j + 3 + 1]? = some 34)) = true := by rw [show j + 3 + 1 = j + 4 by lia, hj4]; rfl
  with_reducible refine enter KF.d_read_verbatim.fn (fun _ _ _ _ _ _ => by kernel_rfl) (locs (by kernel_rfl)) (by kernel_rfl) (by kernel_rfl) (by kernel_rfl) (of_decide_eq_true (by kernel_rfl)) ?_
  intro c base g m s h tk₀ S F N hm
  have hm_lx : m ("lx" : Str) = some _ := (hm _).trans rfl
  clear hm
  have kl_lx : Lc (dScope (defAt 43)) "lx" := ⟨by kernel_rfl, by kernel_rfl⟩
  have kl_begin : Lc (dScope (defAt 43)) "begin" := ⟨by kernel_rfl, by kernel_rfl⟩
  have kl_pieces : Lc (dScope (defAt 43)) "pieces" := ⟨by kernel_rfl, by kernel_rfl⟩
  have kl_end : Lc (dScope (defAt 43)) "end" := ⟨by kernel_rfl, by kernel_rfl⟩
  have kg_TK_TEXT : Gb (dScope (defAt 43)) "TK_TEXT" := ⟨by kernel_rfl, by kernel_rfl⟩
  obtain ⟨ti_TK_TEXT, gg_TK_TEXT⟩ := KF.i_TK_TEXT
  have kg_units_of : Gb (dScope (defAt 43)) "units_of" := ⟨by kernel_rfl, by kernel_rfl⟩
  have kk_units_of := KF.d_units_of.keep
  have gg_units_of := KF.g_units_of
  have kg_len : Gb (dScope (defAt 43)) "len" := ⟨by kernel_rfl, by kernel_rfl⟩
  have kk_put := KF.m_put.keep
  have kk_fault := KF.m_fault.keep
  have kk_here := KF.m_here.keep
  show wpAny _ _ (execs (_ :: _) _) _ _ _
  with_reducible
   refine x_assign ?_ (by k_dflt exact rfl)
   refine z_aAt ‹_› ‹_› ‹_› ‹_› (by tb_start) ‹_› ‹_› ?_; intro _ _
   refine z_store ‹_› ‹_› ‹_› ‹_› ?_; intro _ _ _ _
   refine x_augAtK ‹_› ‹_› ‹_› ‹_› (by tb_start) ‹_› ‹_› ?_; intro _ _ _ _ _ _ _
   refine x_assign ?_ (by k_dflt exact rfl)
   refine z_glue0L ‹_› ‹_› ‹_› ?_; intro _ _ _ _ _ _ _ _ _ _ _
   refine z_store ‹_› ‹_› ‹_› ‹_› ?_; intro _ _ _ _
  rename_i K₀ U h₁ tk₁ news₁ F₁ N₁ L₁ G₁ hU K₁ U₁ h₂ tk₂ F₂ N₂
  with_reducible refine x_while (fun n m' l => ∃ t, m' ("lx" : Str) = some (.ref a.lx) ∧ m' ("begin" : Str) = some (.int (i : Nat) t) ∧ m' ("pieces" : Str) = some (.ref U) ∧ Kp (U :: a.S) news₁ l ∧
    ((n = 1 ∧ LexS A a cs (i + 2) tk fl l ∧ GL U [] 0 l) ∨ (n = 0 ∧ LexS A a cs (j + 2) tk fl l ∧ GL U (cut cs (i + 2) j ++ [34]) 2 l))) 1 F₂ N₂ ?_ ?_
  · exact ⟨_, by tb_start, by tb_start, by tb_start, Kp.refl, .inl ⟨rfl, by assumption, G₁⟩⟩
  · rintro n h tk' m' l F N ⟨t, hm1, hm2, hm3, K, ⟨rfl, L, G⟩ | ⟨rfl, L, G⟩⟩
    · clear hm_lx
      with_reducible
       refine t_const ?_
       refine both_tt ?_
       refine x_assign ?_ (by k_dflt exact rfl)
       refine PyProof.Rows.MethodCall_ ?_ (by k_dflt exact rfl)
       refine z_aText ‹_› ‹_› ‹_› ‹_› (by tb_start) ‹_› ‹_› ?_; intro _ _
       refine GM.find ?_
       refine PyProof.Rows.callWith_method1 ?_ (by k_dflt exact rfl) (by k_dflt exact rfl)
       refine z_args ?_ (by k_dflt exact rfl)
       refine d_str ?_
       refine z_args ?_ (by k_dflt exact rfl)
       refine z_aAt ‹_› ‹_› ‹_› ‹_› (by tb_start) ‹_› ‹_› ?_; intro _ _
       refine z_args0 ?_
       refine call_app1 ?_
       refine d_find lit34 ‹_› (take1 ‹_›) ‹_› ?_
       refine z_store ‹_› ‹_› ‹_› ‹_› ?_; intro _ _ _ _
       refine x_if ?_
       refine t_cmpN ‹_› ‹_› ‹_› (by tb_start) ?_ (by with_unfolding_all rfl)
       refine n_lt ?_
       refine Exists.intro _ (And.intro rfl ?_)
       refine dec_ff (by k_dflt exact rfl) ?_
       refine x_app0 ?_
       refine z_expr ‹_› ?_ (by k_dflt exact rfl)
       refine PyProof.Rows.MethodCall_ ?_ (by k_dflt exact rfl)
       refine z_local ‹_› ‹_› ‹_› (by tb_start) ?_
       refine m_glue ‹_› (by first | with_reducible assumption | exact GL.kp ‹_› ‹_› ‹_›) ?_
       refine PyProof.Rows.callWith_method1 ?_ (by k_dflt exact rfl) (by k_dflt exact rfl)
       refine z_args ?_ (by k_dflt exact rfl)
       refine PyProof.Rows.Subscript_ ?_
       refine z_aText ‹_› ‹_› ‹_› ‹_› (by tb_start) ‹_› ‹_› ?_; intro _ _
       refine z_slice ?_
       refine evalPart_some_step ?_
       refine z_aAt ‹_› ‹_› ‹_› ‹_› (by tb_start) ‹_› ‹_› ?_; intro _ _
       refine evalPart_some_step ?_
       refine z_local ‹_› ‹_› ‹_› (by tb_start) ?_
       refine Exists.intro _ (Exists.intro _ (And.intro rfl ?_))
       refine z_tail_ss ‹_› ‹_› (by first | with_reducible assumption | lia) (by first | with_reducible assumption | lia) ‹_› (by with_unfolding_all rfl) (by intro _; with_unfolding_all rfl) ?_; intro _ _ _ _ _
       refine z_args0 ?_
       refine call_app1 ?_
       refine z_glueL ‹_› ‹_› ‹_› (by first | with_reducible assumption | exact GL.kp ‹_› ‹_› ‹_›) ‹_› (by first | with_reducible assumption | lia) ?_; intro _ _ _ _ _ _ _ _
       refine x_assignA ?_ (by k_dflt exact rfl)
       refine e_binN ‹_› ‹_› ‹_› (by tb_start) ?_
       refine d_add ?_
       refine z_local ‹_› ‹_› ‹_› (by tb_start) ?_
       refine z_setAt ‹_› ‹_› ‹_› ‹_› ‹_› ?_; intro _ _ _ _ _ _ _
       refine x_if ?_
       refine t_here ‹_› ‹_› ‹_› ‹_› ‹_› ‹_› (by k_dflt decide) (by first | with_reducible assumption | k_dflt exact rfl) ‹_› (by tb_start) ?_ (by with_unfolding_all rfl) (by k_dflt exact rfl); intro _ _ _ _ _
       refine z_nec lit34 ?_
       refine Exists.intro _ (And.intro rfl ?_)
       refine dec_ff (by k_dflt exact rfl) ?_
       refine x_app0 ?_
       refine z_expr ‹_› ?_ (by k_dflt exact rfl)
       refine PyProof.Rows.MethodCall_ ?_ (by k_dflt exact rfl)
       refine z_local ‹_› ‹_› ‹_› (by tb_start) ?_
       refine m_glue ‹_› (by first | with_reducible assumption | exact GL.kp ‹_› ‹_› ‹_›) ?_
       refine PyProof.Rows.callWith_method1 ?_ (by k_dflt exact rfl) (by k_dflt exact rfl)
       refine z_args ?_ (by k_dflt exact rfl)
       refine d_str ?_
       refine z_args0 ?_
       refine call_app1 ?_
       refine z_glueL ‹_› ‹_› ‹_› (by first | with_reducible assumption | exact GL.kp ‹_› ‹_› ‹_›) ‹_› (by first | with_reducible assumption | lia) ?_; intro _ _ _ _ _ _ _ _
       refine x_augAtK ‹_› ‹_› ‹_› ‹_› (by tb_start) ‹_› ‹_› ?_; intro _ _ _ _ _ _ _
       refine x_nil ?_
      with_reducible refine loop_next (k := 0) (by assumption) (by assumption) (Nat.lt_succ_self _) ?_
      refine ⟨t, by tb_start, by tb_start, by tb_start, Kp.trans K (Kp.trans (by assumption) (Kp.trans (Kp.up (by assumption)) (Kp.trans (by assumption) (Kp.up (by assumption))))), .inr ⟨rfl, by assumption, ?_⟩⟩
      rename_i GG _ _ _ _ _ _ _ KK
      rw [show (Str.ofString "\"").1.toList = [34] by decide, List.nil_append] at GG
      exact GL.kp GG hU KK
    · clear hm_lx
      with_reducible
       refine t_const ?_
       refine both_tt ?_
       refine x_assign ?_ (by k_dflt exact rfl)
       refine PyProof.Rows.MethodCall_ ?_ (by k_dflt exact rfl)
       refine z_aText ‹_› ‹_› ‹_› ‹_› (by tb_start) ‹_› ‹_› ?_; intro _ _
       refine GM.find ?_
       refine PyProof.Rows.callWith_method1 ?_ (by k_dflt exact rfl) (by k_dflt exact rfl)
       refine z_args ?_ (by k_dflt exact rfl)
       refine d_str ?_
       refine z_args ?_ (by k_dflt exact rfl)
       refine z_aAt ‹_› ‹_› ‹_› ‹_› (by tb_start) ‹_› ‹_› ?_; intro _ _
       refine z_args0 ?_
       refine call_app1 ?_
       refine d_find lit34 ‹_› (take1 ‹_›) ‹_› ?_
       refine z_store ‹_› ‹_› ‹_› ‹_› ?_; intro _ _ _ _
       refine x_if ?_
       refine t_cmpN ‹_› ‹_› ‹_› (by tb_start) ?_ (by with_unfolding_all rfl)
       refine n_lt ?_
       refine Exists.intro _ (And.intro rfl ?_)
       refine dec_ff (by k_dflt exact rfl) ?_
       refine x_app0 ?_
       refine z_expr ‹_› ?_ (by k_dflt exact rfl)
       refine PyProof.Rows.MethodCall_ ?_ (by k_dflt exact rfl)
       refine z_local ‹_› ‹_› ‹_› (by tb_start) ?_
       refine m_glue ‹_› (by first | with_reducible assumption | exact GL.kp ‹_› ‹_› ‹_›) ?_
       refine PyProof.Rows.callWith_method1 ?_ (by k_dflt exact rfl) (by k_dflt exact rfl)
       refine z_args ?_ (by k_dflt exact rfl)
       refine PyProof.Rows.Subscript_ ?_
       refine z_aText ‹_› ‹_› ‹_› ‹_› (by tb_start) ‹_› ‹_› ?_; intro _ _
       refine z_slice ?_
       refine evalPart_some_step ?_
       refine z_aAt ‹_› ‹_› ‹_› ‹_› (by tb_start) ‹_› ‹_› ?_; intro _ _
       refine evalPart_some_step ?_
       refine z_local ‹_› ‹_› ‹_› (by tb_start) ?_
       refine Exists.intro _ (Exists.intro _ (And.intro rfl ?_))
       refine z_tail_cut ‹_› ‹_› ‹_› (by first | with_reducible assumption | lia) (by first | with_reducible assumption | lia) ‹_› (by with_unfolding_all rfl) (by intro _; with_unfolding_all rfl) ?_; intro _ _ _ _ _
       refine z_args0 ?_
       refine call_app1 ?_
       refine z_glueL ‹_› ‹_› ‹_› (by first | with_reducible assumption | exact GL.kp ‹_› ‹_› ‹_›) ‹_› (by first | with_reducible assumption | lia) ?_; intro _ _ _ _ _ _ _ _
       refine x_assignA ?_ (by k_dflt exact rfl)
       refine e_binN ‹_› ‹_› ‹_› (by tb_start) ?_
       refine d_add ?_
       refine z_local ‹_› ‹_› ‹_› (by tb_start) ?_
       refine z_setAt ‹_› ‹_› ‹_› ‹_› ‹_› ?_; intro _ _ _ _ _ _ _
       refine x_if ?_
       refine t_here ‹_› ‹_› ‹_› ‹_› ‹_› ‹_› (by k_dflt decide) (by first | with_reducible assumption | k_dflt exact rfl) ‹_› (by tb_start) ?_ (by with_unfolding_all rfl) (by k_dflt exact rfl); intro _ _ _ _ _
       refine z_nec lit34 ?_
       refine Exists.intro _ (And.intro rfl ?_)
       refine dec_tt ‹_› ?_
       refine x_app ?_
       refine x_break ?_
      rename_i GG KK _ _ l9 _ _ _ K9 _ h9 tk9 F9 N9
      have G9 : GL U (cut cs (i + 2) j ++ [34] ++ [10]) 3 l9 := GL.kp GG hU K9
      with_reducible refine loop_brk ?_
      with_reducible
       refine z_expr ‹_› ?_ (by k_dflt exact rfl)
       refine PyProof.Rows.MethodCall_ ?_ (by k_dflt exact rfl)
       refine z_local ‹_› ‹_› ‹_› (by tb_start) ?_
       refine m_lex ‹_› ‹_› ‹_› ‹_› ‹_› (Kf.m_put ‹_›) mem_here.2.2.1 ?_
       refine z_mcall ‹_› ‹_› ?_ (by k_dflt exact rfl) (by k_dflt exact rfl)
       refine z_args ?_ (by k_dflt exact rfl)
       refine z_global ‹_› ‹_› ‹_› ‹_› ?_
       refine z_args ?_ (by k_dflt exact rfl)
       refine e_callE ‹_› ‹_› ‹_› ‹_› ‹_› ?_ (by k_dflt exact rfl)
       refine PyProof.Rows.MethodCall_ ?_ (by k_dflt exact rfl)
       refine d_str ?_
       refine GM.join ?_
       refine PyProof.Rows.callWith_method1 ?_ (by k_dflt exact rfl) (by k_dflt exact rfl)
       refine z_args ?_ (by k_dflt exact rfl)
       refine z_local ‹_› ‹_› ‹_› (by tb_start) ?_
       refine z_args0 ?_
       refine call_app1 ?_
       refine z_join ‹_› (by first | with_reducible assumption | exact GL.kp ‹_› ‹_› ‹_›) (by first | with_reducible assumption | lia) ?_; intro _ _
       refine And.intro (Exists.intro _ ‹_›) ?_
       refine u_units ‹_› ‹_› ‹_› ‹_› ‹_› ‹_› ‹_› (by k_dflt decide) ?_; intro _ _ _ _ _ _ _ _
       refine z_args ?_ (by k_dflt exact rfl)
       refine z_local ‹_› ‹_› ‹_› (by tb_start) ?_
       refine z_args0 ?_
       refine And.intro (Exists.intro _ ‹_›) ?_
       refine u_put ‹_› ‹_› ‹_› ‹_› ‹_› ‹_› (by k_dflt decide) (by first | with_reducible assumption | ((with_reducible show Apart _ _ (Value.str _ _) _); with_reducible exact Apart.str) | ((with_reducible show Apart _ _ (Value.int _ _) _); with_reducible exact Apart.int)) ?_; intro _ _ _ _ _ _ _
       refine x_nil ?_
       refine z_end ‹_› ‹_› ?_
      rw [← hun]
      exact ⟨rfl, by assumption, by
        refine Kp.off (x := U) ?_ fun p hp hn => U₁ p (K₀ p hp hn)
        exact Kp.trans (Kp.up K₀) (Kp.trans (Kp.up K₁) (Kp.trans K (Kp.trans KK (Kp.trans (Kp.up K9) (Kp.up (Kp.trans (by assumption) (by assumption)))))))⟩
theorem ct_read_char (KF : Kf W A) (L : LexS A a cs i tk fl news) (hl : cs.length ≤ 100000) (hz : tk.length ≤ 100000) (hz' : fl.length ≤ 100000) {k : Nat} (hk : k < 1114112) (h1 : k ≠ 39) (h2 : k ≠ 92) (h3 : lineEnd k = false) (hc : cs[i + 1]? = some k) (hc' : cs[i + 1 + 1]? = some 39) :
    Ct W A.read_char [.ref a.lx] 3 news (fun r l => r = .none ∧ LexS A a cs (i + 3) (tk ++ [tokD 5 (.int (if 65535 < k then 0 else k)) i]) (fl ++ (if 65535 < k then [fltD 1012 i []] else [])) l ∧ Kp a.S news l) := by
  have f1 : decide (some k = some 39) = false := decide_eq_false fun q => h1 (Option.some.inj q)
  have f2 : decide (some k = some 92) = false := decide_eq_false fun q => h2 (Option.some.inj q)
  have f3 : leO2 (some k) = false := h3
  have f3' : (!leO2 (some k)) = true := by rw [f3]; rfl
  by_cases hb : 65535 < k
  · have e1 : unit1 k = [55296 + (k - 65536) / 1024, 56320 + (k - 65536) % 1024] := if_neg (by lia)
    have hp2 : ([55296 + (k - 65536) / 1024, 56320 + (k - 65536) % 1024] : Cs).length ≤ 100000 := Nat.le_of_ble_eq_true rfl
    rw [if_pos hb, if_pos hb]
    with_reducible refine enter KF.d_read_char.fn (fun _ _ _ _ _ _ => by kernel_rfl) (locs (by kernel_rfl)) (by kernel_rfl) (by kernel_rfl) (by kernel_rfl) (of_decide_eq_true (by kernel_rfl)) ?_
    intro c base g m s h tk₀ S F N hm
    have hm_lx : m ("lx" : Str) = some _ := (hm _).trans rfl
    clear hm
    have kl_lx : Lc (dScope (defAt 44)) "lx" := ⟨by kernel_rfl, by kernel_rfl⟩
    have kl_begin : Lc (dScope (defAt 44)) "begin" := ⟨by kernel_rfl, by kernel_rfl⟩
    have kl_c : Lc (dScope (defAt 44)) "c" := ⟨by kernel_rfl, by kernel_rfl⟩
    have kl_letter : Lc (dScope (defAt 44)) "letter" := ⟨by kernel_rfl, by kernel_rfl⟩
    have kl_count : Lc (dScope (defAt 44)) "count" := ⟨by kernel_rfl, by kernel_rfl⟩
    have kl_number : Lc (dScope (defAt 44)) "number" := ⟨by kernel_rfl, by kernel_rfl⟩
    have kg_TK_CHAR : Gb (dScope (defAt 44)) "TK_CHAR" := ⟨by kernel_rfl, by kernel_rfl⟩
    obtain ⟨ti_TK_CHAR, gg_TK_CHAR⟩ := KF.i_TK_CHAR
    have kg_skip_char : Gb (dScope (defAt 44)) "skip_char" := ⟨by kernel_rfl, by kernel_rfl⟩
    have kg_ord : Gb (dScope (defAt 44)) "ord" := ⟨by kernel_rfl, by kernel_rfl⟩
    have kg_read_escape : Gb (dScope (defAt 44)) "read_escape" := ⟨by kernel_rfl, by kernel_rfl⟩
    have kg_units_of : Gb (dScope (defAt 44)) "units_of" := ⟨by kernel_rfl, by kernel_rfl⟩
    have kk_units_of := KF.d_units_of.keep
    have gg_units_of := KF.g_units_of
    have kg_len : Gb (dScope (defAt 44)) "len" := ⟨by kernel_rfl, by kernel_rfl⟩
    have kg_is_line_end : Gb (dScope (defAt 44)) "is_line_end" := ⟨by kernel_rfl, by kernel_rfl⟩
    have kk_is_line_end := KF.d_is_line_end.keep
    have gg_is_line_end := KF.g_is_line_end
    have kk_here := KF.m_here.keep
    have kk_put := KF.m_put.keep
    have kk_fault := KF.m_fault.keep
    show wpAny _ _ (execs (_ :: _) _) _ _ _
    with_reducible
     refine x_assign ?_ (by k_dflt exact rfl)
     refine z_aAt ‹_› ‹_› ‹_› ‹_› (by tb_start) ‹_› ‹_› ?_; intro _ _
     refine z_store ‹_› ‹_› ‹_› ‹_› ?_; intro _ _ _ _
     refine x_augAtK ‹_› ‹_› ‹_› ‹_› (by tb_start) ‹_› ‹_› ?_; intro _ _ _ _ _ _ _
     refine x_assign ?_ (by k_dflt exact rfl)
     refine e_here ‹_› ‹_› ‹_› ‹_› ‹_› ‹_› (by k_dflt decide) (by first | with_reducible assumption | k_dflt exact rfl) ‹_› (by tb_start) ?_ (by k_dflt exact rfl); intro _ _ _ _ _
     refine z_store ‹_› ‹_› ‹_› ‹_› ?_; intro _ _ _ _
     refine x_assign ?_ (by k_dflt exact rfl)
     refine z_local ‹_› ‹_› ‹_› (by tb_start) ?_
     refine z_store ‹_› ‹_› ‹_› ‹_› ?_; intro _ _ _ _
     refine x_assign ?_ (by k_dflt exact rfl)
     refine d_num ?_
     refine z_store ‹_› ‹_› ‹_› ‹_› ?_; intro _ _ _ _
     refine x_if ?_
     refine t_cmpS ‹_› ‹_› ‹_› (by tb_start) ?_ (by with_unfolding_all rfl)
     refine z_eqc lit39 ?_
     refine Exists.intro _ (And.intro rfl ?_)
     refine dec_ff ‹_› ?_
     refine x_app ?_
     refine x_if ?_
     refine t_cmpS ‹_› ‹_› ‹_› (by tb_start) ?_ (by with_unfolding_all rfl)
     refine z_eqc lit92 ?_
     refine Exists.intro _ (And.intro rfl ?_)
     refine dec_ff ‹_› ?_
     refine x_app ?_
     refine x_if ?_
     refine t_and ?_
     refine t_cmpS ‹_› ‹_› ‹_› (by tb_start) ?_ (by with_unfolding_all rfl)
     refine z_ne0 lit_nil ?_
     refine Exists.intro _ (And.intro rfl ?_)
     refine dec_tt (by k_dflt exact rfl) ?_
     refine t_and ?_
     refine t_not ?_
     refine t_call ?_
     refine e_call1 ‹_› ‹_› ‹_› ‹_› ‹_› ‹_› (by tb_start) ?_
     refine u_is_line_end ‹_› ‹_› ‹_› ‹_› (by k_dflt decide) ?_; intro _ _ _ _
     refine Exists.intro _ (And.intro rfl ?_)
     refine dec_tt ‹_› ?_
     refine PyProof.Rows.isTrue_and_nil ?_
     refine both_tt ?_
     refine x_app ?_
     refine x_assign ?_ (by k_dflt exact rfl)
     refine e_call1 ‹_› ‹_› ‹_› ‹_› ‹_› ‹_› (by tb_start) ?_
     refine u_units1 ‹_› ‹_› ‹_› ‹_› ‹_› ‹_› (by k_dflt decide) (by first | with_reducible assumption | k_dflt exact rfl) ?_; intro _ _ _ _ _ _ _ _
     refine z_store ‹_› ‹_› ‹_› ‹_› ?_; intro _ _ _ _
     refine x_app ?_
     refine x_augAtK ‹_› ‹_› ‹_› ‹_› (by tb_start) ‹_› ‹_› ?_; intro _ _ _ _ _ _ _
     refine x_app0 ?_
     refine x_app0 ?_
     refine x_app0 ?_
     refine x_if ?_
     refine t_and ?_
     refine t_cmpN ‹_› ‹_› ‹_› (by tb_start) ?_ (by with_unfolding_all rfl)
     refine n_eq ?_
     refine Exists.intro _ (And.intro rfl ?_)
     refine dec_tt (by k_dflt exact rfl) ?_
     refine t_and ?_
     refine t_here ‹_› ‹_› ‹_› ‹_› ‹_› ‹_› (by k_dflt decide) (by first | with_reducible assumption | k_dflt exact rfl) ‹_› (by tb_start) ?_ (by with_unfolding_all rfl) (by k_dflt exact rfl); intro _ _ _ _ _
     refine z_nec lit39 ?_
     refine Exists.intro _ (And.intro rfl ?_)
     refine dec_ff (by k_dflt exact rfl) ?_
     refine both_ff ?_
     refine x_app0 ?_
     refine x_if ?_
     refine t_here ‹_› ‹_› ‹_› ‹_› ‹_› ‹_› (by k_dflt decide) (by first | with_reducible assumption | k_dflt exact rfl) ‹_› (by tb_start) ?_ (by with_unfolding_all rfl) (by k_dflt exact rfl); intro _ _ _ _ _
     refine z_eqc lit39 ?_
     refine Exists.intro _ (And.intro rfl ?_)
     refine dec_tt (by k_dflt exact rfl) ?_
     refine x_app ?_
     refine x_augAtK ‹_› ‹_› ‹_› ‹_› (by tb_start) ‹_› ‹_› ?_; intro _ _ _ _ _ _ _
     refine x_app ?_
     refine x_if ?_
     refine t_or ?_
     refine t_cmpN ‹_› ‹_› ‹_› (by tb_start) ?_ (by with_unfolding_all rfl)
     refine n_gt ?_
     refine Exists.intro _ (And.intro rfl ?_)
     refine dec_ff (by k_dflt exact rfl) ?_
     refine t_or ?_
     refine t_cmp ?_
     refine e_built ‹_› ‹_› ‹_› (Kf.b_len ‹_›) boot_len (by decide) ?_ (by k_dflt exact rfl)
     refine z_local ‹_› ‹_› ‹_› (by tb_start) ?_
     refine d_len ‹_› ?_
     refine d_num ?_
     refine n_gt ?_
     refine Exists.intro _ (And.intro rfl ?_)
     refine dec_tt (by k_dflt exact rfl) ?_
     refine both_tt ?_
     refine x_app ?_
     refine z_expr ‹_› ?_ (by k_dflt exact rfl)
     refine PyProof.Rows.MethodCall_ ?_ (by k_dflt exact rfl)
     refine z_local ‹_› ‹_› ‹_› (by tb_start) ?_
     refine m_lex ‹_› ‹_› ‹_› ‹_› ‹_› (Kf.m_fault ‹_›) mem_here.2.2.2 ?_
     refine z_mcall ‹_› ‹_› ?_ (by k_dflt exact rfl) (by k_dflt exact rfl)
     refine z_args ?_ (by k_dflt exact rfl)
     refine d_num ?_
     refine z_args ?_ (by k_dflt exact rfl)
     refine z_local ‹_› ‹_› ‹_› (by tb_start) ?_
     refine z_args ?_ (by k_dflt exact rfl)
     refine PyProof.Rows.Tuple_ ?_
     refine z_args0 ?_
     refine z_tupL ‹_› ‹_› ‹_› (by first | with_reducible exact aparts_nil | with_reducible exact aparts_cons Apart.str aparts_nil | with_reducible exact aparts_cons Apart.int (aparts_cons Apart.str aparts_nil)) (by k_dflt exact Nat.le_of_ble_eq_true rfl) ?_; intro _ _ _ _ _ _ _ _ _
     refine z_args0 ?_
     refine And.intro (Exists.intro _ ‹_›) ?_
     refine u_fault ‹_› ‹_› ‹_› ‹_› ‹_› ‹_› (by k_dflt decide) (by first | with_reducible assumption | ((with_reducible show Apart _ _ (Value.str _ _) _); with_reducible exact Apart.str) | ((with_reducible show Apart _ _ (Value.int _ _) _); with_reducible exact Apart.int)) ?_; intro _ _ _ _ _ _ _
     refine x_app ?_
     refine x_assign ?_ (by k_dflt exact rfl)
     refine d_num ?_
     refine z_store ‹_› ‹_› ‹_› ‹_› ?_; intro _ _ _ _
     refine x_app0 ?_
     refine x_app0 ?_
     refine x_assign ?_ (by k_dflt exact rfl)
     refine d_num ?_
     refine z_store ‹_› ‹_› ‹_› ‹_› ?_; intro _ _ _ _
     refine x_if ?_
     refine t_and ?_
     refine t_cmpN ‹_› ‹_› ‹_› (by tb_start) ?_ (by with_unfolding_all rfl)
     refine n_eq ?_
     refine Exists.intro _ (And.intro rfl ?_)
     refine dec_ff (by k_dflt exact rfl) ?_
     refine both_ff ?_
     refine x_app0 ?_
     refine z_expr ‹_› ?_ (by k_dflt exact rfl)
     refine PyProof.Rows.MethodCall_ ?_ (by k_dflt exact rfl)
     refine z_local ‹_› ‹_› ‹_› (by tb_start) ?_
     refine m_lex ‹_› ‹_› ‹_› ‹_› ‹_› (Kf.m_put ‹_›) mem_here.2.2.1 ?_
     refine z_mcall ‹_› ‹_› ?_ (by k_dflt exact rfl) (by k_dflt exact rfl)
     refine z_args ?_ (by k_dflt exact rfl)
     refine z_global ‹_› ‹_› ‹_› ‹_› ?_
     refine z_args ?_ (by k_dflt exact rfl)
     refine z_local ‹_› ‹_› ‹_› (by tb_start) ?_
     refine z_args ?_ (by k_dflt exact rfl)
     refine z_local ‹_› ‹_› ‹_› (by tb_start) ?_
     refine z_args0 ?_
     refine And.intro (Exists.intro _ ‹_›) ?_
     refine u_put ‹_› ‹_› ‹_› ‹_› ‹_› ‹_› (by k_dflt decide) (by first | with_reducible assumption | ((with_reducible show Apart _ _ (Value.str _ _) _); with_reducible exact Apart.str) | ((with_reducible show Apart _ _ (Value.int _ _) _); with_reducible exact Apart.int)) ?_; intro _ _ _ _ _ _ _
     refine x_nil ?_
     refine z_end ‹_› ‹_› ?_
    exact ⟨rfl, by assumption, by lcg_sub⟩
  · have e1 : unit1 k = [k] := if_pos (by lia)
    have hp1 : ([k] : Cs).length ≤ 100000 := Nat.le_of_ble_eq_true rfl
    have hp1' : (!decide (([k] : Cs) = [])) = true := rfl
    rw [if_neg hb, if_neg hb, List.append_nil]
    with_reducible refine enter KF.d_read_char.fn (fun _ _ _ _ _ _ => by kernel_rfl) (locs (by kernel_rfl)) (by kernel_rfl) (by kernel_rfl) (by kernel_rfl) (of_decide_eq_true (by kernel_rfl)) ?_
    intro c base g m s h tk₀ S F N hm
    have hm_lx : m ("lx" : Str) = some _ := (hm _).trans rfl
    clear hm
    have kl_lx : Lc (dScope (defAt 44)) "lx" := ⟨by kernel_rfl, by kernel_rfl⟩
    have kl_begin : Lc (dScope (defAt 44)) "begin" := ⟨by kernel_rfl, by kernel_rfl⟩
    have kl_c : Lc (dScope (defAt 44)) "c" := ⟨by kernel_rfl, by kernel_rfl⟩
    have kl_letter : Lc (dScope (defAt 44)) "letter" := ⟨by kernel_rfl, by kernel_rfl⟩
    have kl_count : Lc (dScope (defAt 44)) "count" := ⟨by kernel_rfl, by kernel_rfl⟩
    have kl_number : Lc (dScope (defAt 44)) "number" := ⟨by kernel_rfl, by kernel_rfl⟩
    have kg_TK_CHAR : Gb (dScope (defAt 44)) "TK_CHAR" := ⟨by kernel_rfl, by kernel_rfl⟩
    obtain ⟨ti_TK_CHAR, gg_TK_CHAR⟩ := KF.i_TK_CHAR
    have kg_skip_char : Gb (dScope (defAt 44)) "skip_char" := ⟨by kernel_rfl, by kernel_rfl⟩
    have kg_ord : Gb (dScope (defAt 44)) "ord" := ⟨by kernel_rfl, by kernel_rfl⟩
    have kg_read_escape : Gb (dScope (defAt 44)) "read_escape" := ⟨by kernel_rfl, by kernel_rfl⟩
    have kg_units_of : Gb (dScope (defAt 44)) "units_of" := ⟨by kernel_rfl, by kernel_rfl⟩
    have kk_units_of := KF.d_units_of.keep
    have gg_units_of := KF.g_units_of
    have kg_len : Gb (dScope (defAt 44)) "len" := ⟨by kernel_rfl, by kernel_rfl⟩
    have kg_is_line_end : Gb (dScope (defAt 44)) "is_line_end" := ⟨by kernel_rfl, by kernel_rfl⟩
    have kk_is_line_end := KF.d_is_line_end.keep
    have gg_is_line_end := KF.g_is_line_end
    have kk_here := KF.m_here.keep
    have kk_put := KF.m_put.keep
    have kk_fault := KF.m_fault.keep
    show wpAny _ _ (execs (_ :: _) _) _ _ _
    with_reducible
     refine x_assign ?_ (by k_dflt exact rfl)
     refine z_aAt ‹_› ‹_› ‹_› ‹_› (by tb_start) ‹_› ‹_› ?_; intro _ _
     refine z_store ‹_› ‹_› ‹_› ‹_› ?_; intro _ _ _ _
     refine x_augAtK ‹_› ‹_› ‹_› ‹_› (by tb_start) ‹_› ‹_› ?_; intro _ _ _ _ _ _ _
     refine x_assign ?_ (by k_dflt exact rfl)
     refine e_here ‹_› ‹_› ‹_› ‹_› ‹_› ‹_› (by k_dflt decide) (by first | with_reducible assumption | k_dflt exact rfl) ‹_› (by tb_start) ?_ (by k_dflt exact rfl); intro _ _ _ _ _
     refine z_store ‹_› ‹_› ‹_› ‹_› ?_; intro _ _ _ _
     refine x_assign ?_ (by k_dflt exact rfl)
     refine z_local ‹_› ‹_› ‹_› (by tb_start) ?_
     refine z_store ‹_› ‹_› ‹_› ‹_› ?_; intro _ _ _ _
     refine x_assign ?_ (by k_dflt exact rfl)
     refine d_num ?_
     refine z_store ‹_› ‹_› ‹_› ‹_› ?_; intro _ _ _ _
     refine x_if ?_
     refine t_cmpS ‹_› ‹_› ‹_› (by tb_start) ?_ (by with_unfolding_all rfl)
     refine z_eqc lit39 ?_
     refine Exists.intro _ (And.intro rfl ?_)
     refine dec_ff ‹_› ?_
     refine x_app ?_
     refine x_if ?_
     refine t_cmpS ‹_› ‹_› ‹_› (by tb_start) ?_ (by with_unfolding_all rfl)
     refine z_eqc lit92 ?_
     refine Exists.intro _ (And.intro rfl ?_)
     refine dec_ff ‹_› ?_
     refine x_app ?_
     refine x_if ?_
     refine t_and ?_
     refine t_cmpS ‹_› ‹_› ‹_› (by tb_start) ?_ (by with_unfolding_all rfl)
     refine z_ne0 lit_nil ?_
     refine Exists.intro _ (And.intro rfl ?_)
     refine dec_tt (by k_dflt exact rfl) ?_
     refine t_and ?_
     refine t_not ?_
     refine t_call ?_
     refine e_call1 ‹_› ‹_› ‹_› ‹_› ‹_› ‹_› (by tb_start) ?_
     refine u_is_line_end ‹_› ‹_› ‹_› ‹_› (by k_dflt decide) ?_; intro _ _ _ _
     refine Exists.intro _ (And.intro rfl ?_)
     refine dec_tt ‹_› ?_
     refine PyProof.Rows.isTrue_and_nil ?_
     refine both_tt ?_
     refine x_app ?_
     refine x_assign ?_ (by k_dflt exact rfl)
     refine e_call1 ‹_› ‹_› ‹_› ‹_› ‹_› ‹_› (by tb_start) ?_
     refine u_units1 ‹_› ‹_› ‹_› ‹_› ‹_› ‹_› (by k_dflt decide) (by first | with_reducible assumption | k_dflt exact rfl) ?_; intro _ _ _ _ _ _ _ _
     refine z_store ‹_› ‹_› ‹_› ‹_› ?_; intro _ _ _ _
     refine x_app ?_
     refine x_augAtK ‹_› ‹_› ‹_› ‹_› (by tb_start) ‹_› ‹_› ?_; intro _ _ _ _ _ _ _
     refine x_app0 ?_
     refine x_app0 ?_
     refine x_app0 ?_
     refine x_if ?_
     refine t_and ?_
     refine t_cmpN ‹_› ‹_› ‹_› (by tb_start) ?_ (by with_unfolding_all rfl)
     refine n_eq ?_
     refine Exists.intro _ (And.intro rfl ?_)
     refine dec_tt (by k_dflt exact rfl) ?_
     refine t_and ?_
     refine t_here ‹_› ‹_› ‹_› ‹_› ‹_› ‹_› (by k_dflt decide) (by first | with_reducible assumption | k_dflt exact rfl) ‹_› (by tb_start) ?_ (by with_unfolding_all rfl) (by k_dflt exact rfl); intro _ _ _ _ _
     refine z_nec lit39 ?_
     refine Exists.intro _ (And.intro rfl ?_)
     refine dec_ff (by k_dflt exact rfl) ?_
     refine both_ff ?_
     refine x_app0 ?_
     refine x_if ?_
     refine t_here ‹_› ‹_› ‹_› ‹_› ‹_› ‹_› (by k_dflt decide) (by first | with_reducible assumption | k_dflt exact rfl) ‹_› (by tb_start) ?_ (by with_unfolding_all rfl) (by k_dflt exact rfl); intro _ _ _ _ _
     refine z_eqc lit39 ?_
     refine Exists.intro _ (And.intro rfl ?_)
     refine dec_tt (by k_dflt exact rfl) ?_
     refine x_app ?_
     refine x_augAtK ‹_› ‹_› ‹_› ‹_› (by tb_start) ‹_› ‹_› ?_; intro _ _ _ _ _ _ _
     refine x_app ?_
     refine x_if ?_
     refine t_or ?_
     refine t_cmpN ‹_› ‹_› ‹_› (by tb_start) ?_ (by with_unfolding_all rfl)
     refine n_gt ?_
     refine Exists.intro _ (And.intro rfl ?_)
     refine dec_ff (by k_dflt exact rfl) ?_
     refine t_or ?_
     refine t_cmp ?_
     refine e_built ‹_› ‹_› ‹_› (Kf.b_len ‹_›) boot_len (by decide) ?_ (by k_dflt exact rfl)
     refine z_local ‹_› ‹_› ‹_› (by tb_start) ?_
     refine d_len ‹_› ?_
     refine d_num ?_
     refine n_gt ?_
     refine Exists.intro _ (And.intro rfl ?_)
     refine dec_ff (by k_dflt exact rfl) ?_
     refine PyProof.Rows.isTrue_or_nil ?_
     refine both_ff ?_
     refine x_app0 ?_
     refine x_app0 ?_
     refine x_assign ?_ (by k_dflt exact rfl)
     refine d_num ?_
     refine z_store ‹_› ‹_› ‹_› ‹_› ?_; intro _ _ _ _
     refine x_if ?_
     refine t_and ?_
     refine t_cmpN ‹_› ‹_› ‹_› (by tb_start) ?_ (by with_unfolding_all rfl)
     refine n_eq ?_
     refine Exists.intro _ (And.intro rfl ?_)
     refine dec_tt (by k_dflt exact rfl) ?_
     refine t_and ?_
     refine t_cmpS ‹_› ‹_› ‹_› (by tb_start) ?_ (by with_unfolding_all rfl)
     refine z_neSL lit_nil ?_
     refine Exists.intro _ (And.intro rfl ?_)
     refine dec_tt ‹_› ?_
     refine PyProof.Rows.isTrue_and_nil ?_
     refine both_tt ?_
     refine x_app ?_
     refine x_assign ?_ (by k_dflt exact rfl)
     refine e_built ‹_› ‹_› ‹_› (Kf.b_ord ‹_›) boot_ord (by decide) ?_ (by k_dflt exact rfl)
     refine z_local ‹_› ‹_› ‹_› (by tb_start) ?_
     refine d_ordS ?_
     refine z_store ‹_› ‹_› ‹_› ‹_› ?_; intro _ _ _ _
     refine x_app0 ?_
     refine z_expr ‹_› ?_ (by k_dflt exact rfl)
     refine PyProof.Rows.MethodCall_ ?_ (by k_dflt exact rfl)
     refine z_local ‹_› ‹_› ‹_› (by tb_start) ?_
     refine m_lex ‹_› ‹_› ‹_› ‹_› ‹_› (Kf.m_put ‹_›) mem_here.2.2.1 ?_
     refine z_mcall ‹_› ‹_› ?_ (by k_dflt exact rfl) (by k_dflt exact rfl)
     refine z_args ?_ (by k_dflt exact rfl)
     refine z_global ‹_› ‹_› ‹_› ‹_› ?_
     refine z_args ?_ (by k_dflt exact rfl)
     refine z_local ‹_› ‹_› ‹_› (by tb_start) ?_
     refine z_args ?_ (by k_dflt exact rfl)
     refine z_local ‹_› ‹_› ‹_› (by tb_start) ?_
     refine z_args0 ?_
     refine And.intro (Exists.intro _ ‹_›) ?_
     refine u_put ‹_› ‹_› ‹_› ‹_› ‹_› ‹_› (by k_dflt decide) (by first | with_reducible assumption | ((with_reducible show Apart _ _ (Value.str _ _) _); with_reducible exact Apart.str) | ((with_reducible show Apart _ _ (Value.int _ _) _); with_reducible exact Apart.int)) ?_; intro _ _ _ _ _ _ _
     refine x_nil ?_
     refine z_end ‹_› ‹_› ?_
    exact ⟨rfl, by assumption, by lcg_sub⟩
end
end Mine
end
section
open PySem PySem.W PySem.Calls PySem.Spec PyProof.Rows
set_option Elab.async false
set_option maxRecDepth 100000
set_option maxHeartbeats 2000000
namespace Mine
section
variable {W : Wd} {base g h : Heap} {c : Cx} {sc : Scope} {n : Nat} {m : Str → Option Value} {news : Led} {s : Shared} {tk' : Nat} {E : Value → Shared → Prop}
theorem x_assignT {elts k tpos value pos} {rest : List Stmt} {Q : Flow → Shared → Prop}
    (h : wpAny W.M c.A (eval value c.env) (fun v s₁ => wpAny W.M c.A (assign (.Tuple elts k tpos) c.env v) (fun _ s₂ => wpAny W.M c.A (execs rest c.env) Q E s₂) E s₁) E s)
    (hs : swapsWithSole [.Tuple elts k tpos] value pos.line c.env = pure false) (hw : swappedStores [.Tuple elts k tpos] value c.env = pure none) :
    wpAny W.M c.A (execs (.Assign [.Tuple elts k tpos] value pos :: rest) c.env) Q E s := wpAny_execs_cons (Assign_Tuple h hs hw)
theorem z_unpack2 {x y : Str} {px py pos : Pos} {k : Nat} {q : Addr} {v1 v2 : Value} {Q : Unit → Shared → Prop} (S : Wk W base c g sc n) (F : Fr g c.L h m) (N : News g c.L h news) (kx : Lc sc x) (ky : Lc sc y)
    (hm : (q, tupOf [v1, v2]) ∈ news) (hq : ∀ h' tk', Fr g c.L h' (upd (upd m x v1) y v2) → News g c.L h' news → Q () (st s h' tk')) :
    wpAny W.M c.A (assign (.Tuple [.Name x px, .Name y py] k pos) c.env (.ref q)) Q E (st s h tk') :=
  unpackN_ (s := st s h tk') F N (News.isTup N hm) rfl rfl rfl fun h₁ F₁ N₁ =>
    assignInOrder_cons (assign_Name (z_store (s := s) (tk := tk') S F₁ N₁ kx fun h₂ tk₂ F₂ N₂ => assignInOrder_cons (assign_Name (z_store S F₂ N₂ ky fun h₃ tk₃ F₃ N₃ => assignInOrder_nil (hq h₃ tk₃ F₃ N₃)))))
end
structure NumEnd (o : Option Nat) : Prop where
  us : decide (o = some 95) = false
  dot : decide (o = some 46) = false
  e1 : decide (o = some 101) = false
  e2 : decide (o = some 69) = false
  u1 : decide (o = some 117) = false
  u2 : decide (o = some 85) = false
  l1 : decide (o = some 108) = false
  l2 : decide (o = some 76) = false
  x1 : decide (o = some 120) = false
  x2 : decide (o = some 88) = false
  b1 : decide (o = some 98) = false
  b2 : decide (o = some 66) = false
  rl : realEndsL.contains o.toList = false
  dg : decide (digO o < 10) = false
theorem numEnd_none : NumEnd none := by constructor <;> decide
theorem real_c (c : Nat) : realEndsL.contains (some c).toList = ([102, 70, 100, 68, 109, 77] : Cs).contains c := by
  have e : realEndsL = ([102, 70, 100, 68, 109, 77] : Cs).map fun c => [c] := by decide
  rw [e]
  generalize ([102, 70, 100, 68, 109, 77] : Cs) = l
  show (l.map fun c => [c]).contains [c] = l.contains c
  induction l with
  | nil => rfl
  | cons b r ih =>
    rw [List.map_cons, List.contains_cons, List.contains_cons, ih]
    have : (([c] : Cs) == [b]) = (c == b) := by simp
    rw [this]
theorem numEnd_of {c : Nat} (h : numOk c = true) : NumEnd (some c) := by
  have hc : (¬ (97 ≤ c ∧ c ≤ 122)) ∧ (¬ (65 ≤ c ∧ c ≤ 90)) ∧ c ≠ 95 ∧ ¬ (48 ≤ c ∧ c ≤ 57) ∧ c ≠ 46 := by
    simp only [numOk, isAZ, isDig, Bool.and_eq_true, Bool.not_eq_true', Bool.or_eq_false_iff, Bool.and_eq_false_iff, decide_eq_false_iff_not] at h
    lia
  obtain ⟨h1, h2, h3, h4, h5⟩ := hc
  have ne : ∀ {k : Nat}, c ≠ k → decide (some c = some k) = false := fun h => decide_eq_false fun q => h (Option.some.inj q)
  refine ⟨ne (by lia), ne (by lia), ne (by lia), ne (by lia), ne (by lia), ne (by lia), ne (by lia), ne (by lia), ne (by lia), ne (by lia), ne (by lia), ne (by lia), ?_, ?_⟩
  · rw [real_c]
    refine Bool.eq_false_iff.mpr fun q => ?_
    have := List.contains_iff_mem.mp q
    simp only [List.mem_cons, List.not_mem_nil, or_false] at this
    lia
  · rw [digO_some, if_neg (by lia), if_neg (by lia), if_neg (by lia)]; rfl
def decV (ds : Cs) : Nat := ds.foldl (fun n d => n * 10 + digO (some d)) 0
theorem decV_snoc {ds : Cs} {d : Nat} : decV (ds ++ [d]) = decV ds * 10 + digO (some d) := by simp [decV, List.foldl_append]
section
variable {W : Wd} {A : Ad} {a : La} {news : Led} {cs : Cs} {i : Nat} {tk fl : List Dat}
theorem tup_eq {v1 v2 w1 w2 : Value} (h1 : v1 = w1) (h2 : v2 = w2) : tupOf [v1, v2] = tupOf [w1, w2] := by rw [h1, h2]
theorem ct_read_digits (KF : Kf W A) (L : LexS A a cs i tk fl news) (hl : cs.length ≤ 100000) {j : Nat} (hij : i < j) (hd : ∀ k, i ≤ k → k < j → ∃ c, cs[k]? = some c ∧ isDig c = true) (hv : ∀ k, i ≤ k → k ≤ j → decV (cut cs i k) < 2 ^ 60)
    {o : Option Nat} (ho : cs[j]? = o) (H : NumEnd o) {t : Tok} :
    Ct W A.read_digits [.ref a.lx, .int ((10 : Nat) : Int) t] 2 news (fun r l => (∃ q t, r = .ref q ∧ (q, tupOf [.int (decV (cut cs i j) : Nat) t, .bool true]) ∈ l) ∧ LexS A a cs j tk fl l ∧ Kp a.S news l) := by
  with_reducible refine enter KF.d_read_digits.fn (fun _ _ _ _ _ _ => by kernel_rfl) (locs (by kernel_rfl)) (by kernel_rfl) (by kernel_rfl) (by kernel_rfl) (of_decide_eq_true (by kernel_rfl)) ?_
  intro c base g m s h tk₀ S F N hm
  have hm_lx : m ("lx" : Str) = some _ := (hm _).trans rfl
  have hm_base : m ("base" : Str) = some _ := (hm _).trans rfl
  clear hm
  have kl_lx : Lc (dScope (defAt 36)) "lx" := ⟨by kernel_rfl, by kernel_rfl⟩
  have kl_base : Lc (dScope (defAt 36)) "base" := ⟨by kernel_rfl, by kernel_rfl⟩
  have kl_number : Lc (dScope (defAt 36)) "number" := ⟨by kernel_rfl, by kernel_rfl⟩
  have kl_last : Lc (dScope (defAt 36)) "last" := ⟨by kernel_rfl, by kernel_rfl⟩
  have kg_digit_of : Gb (dScope (defAt 36)) "digit_of" := ⟨by kernel_rfl, by kernel_rfl⟩
  have kk_digit_of := KF.d_digit_of.keep
  have gg_digit_of := KF.g_digit_of
  have kk_here := KF.m_here.keep
  show wpAny _ _ (execs (_ :: _) _) _ _ _
  with_reducible
   refine x_assign ?_ (by k_dflt exact rfl)
   refine d_num ?_
   refine z_store ‹_› ‹_› ‹_› ‹_› ?_; intro _ _ _ _
   refine x_assign ?_ (by k_dflt exact rfl)
   refine d_str ?_
   refine z_store ‹_› ‹_› ‹_› ‹_› ?_; intro _ _ _ _
  with_reducible refine x_while (fun n m' l => ∃ i' v t' tl, i ≤ i' ∧ i' + n = j ∧ v = decV (cut cs i i') ∧ m' ("lx" : Str) = some (.ref a.lx) ∧ m' ("base" : Str) = some (.int ((10 : Nat) : Int) t) ∧ m' ("number" : Str) = some (.int (v : Nat) t') ∧ LexS A a cs i' tk fl l ∧ Kp a.S news l ∧
    ((i' = i ∧ m' ("last" : Str) = some (.str (Str.ofString "_") tl)) ∨ (∃ d, cs[i' - 1]? = some d ∧ isDig d = true ∧ m' ("last" : Str) = some (.str (ch (some d)) tl)))) (j - i) (by assumption) (by assumption) ?_ ?_
  · exact ⟨i, 0, _, _, Nat.le_refl _, by lia, by rw [cut_none]; rfl, by tb_start, by tb_start, by tb_start, by assumption, Kp.refl, .inl ⟨rfl, by tb_start⟩⟩
  · rintro n h tk' m' l F N ⟨i', v, t', tl, h1, h2, hv', hm1, hm2, hm3, L, K, hlast⟩
    clear hm_lx hm_base
    cases n with
    | zero =>
      obtain rfl : i' = j := by lia
      obtain ⟨d, hd1, hd2, hm4⟩ : ∃ d, cs[i' - 1]? = some d ∧ isDig d = true ∧ m' ("last" : Str) = some (.str (ch (some d)) tl) := hlast.resolve_left fun q => by lia
      have f1 := H.us
      have f2 := H.dg
      have f3 : (!decide (some d = some 95)) = true := by
        rw [decide_eq_false fun q => ?_]; rfl
        rw [Option.some.inj q] at hd2; cases hd2
      with_reducible
       refine t_or ?_
       refine t_here ‹_› ‹_› ‹_› ‹_› ‹_› ‹_› (by k_dflt decide) (by first | with_reducible assumption | k_dflt exact rfl) ‹_› (by tb_start) ?_ (by with_unfolding_all rfl) (by k_dflt exact rfl); intro _ _ _ _ _
       refine z_eqc lit95 ?_
       refine Exists.intro _ (And.intro rfl ?_)
       refine dec_ff ‹_› ?_
       refine t_or ?_
       refine t_cmp ?_
       refine e_callH ‹_› ‹_› ‹_› ‹_› ‹_› ‹_› (by k_dflt decide) (by first | with_reducible assumption | k_dflt exact rfl) ‹_› (by tb_start) ‹_› ‹_› ‹_› ?_ (by k_dflt exact rfl); intro _ _ _ _ _
       refine u_digit_of ‹_› ‹_› ‹_› ‹_› (by k_dflt decide) ?_; intro _ _ _ _ _
       refine z_local ‹_› ‹_› ‹_› (by tb_start) ?_
       refine n_lt ?_
       refine Exists.intro _ (And.intro rfl ?_)
       refine dec_ff ‹_› ?_
       refine PyProof.Rows.isTrue_or_nil ?_
       refine both_ff ?_
       refine x_ret ?_
       refine PyProof.Rows.Tuple_ ?_
       refine z_args ?_ (by k_dflt exact rfl)
       refine z_local ‹_› ‹_› ‹_› (by tb_start) ?_
       refine z_args ?_ (by k_dflt exact rfl)
       refine v_cmp ?_
       refine z_local ‹_› ‹_› ‹_› (by tb_start) ?_
       refine d_str ?_
       refine z_nec lit95 ?_
       refine z_args0 ?_
      rw [f3]
      with_reducible refine z_tuple (vs := [.int (v : Nat) t', .bool true]) (by assumption) (by assumption) (Nat.le_of_ble_eq_true rfl) fun q h₁ tk₁ F₁ N₁ hne => ?_
      with_reducible refine z_done ‹_› ‹_› ?_
      refine ⟨⟨q, t', rfl, ?_⟩, L.keep fun p hp => .tail _ hp, Kp.trans K Kp.push⟩
      rw [← hv']
      exact .head _
    | succ n =>
      obtain ⟨e, he, hde⟩ := hd i' h1 (by lia)
      have f1 : decide (some e = some 95) = false := decide_eq_false fun q => by rw [Option.some.inj q] at hde; cases hde
      have f2 : decide (digO (some e) < 10) = true := by
        rw [digO_some]
        simp only [isDig, Bool.and_eq_true, decide_eq_true_eq] at hde
        rw [if_pos hde]
        exact decide_eq_true (by lia)
      have f3 : (!decide (some e = some 95)) = true := by rw [f1]; rfl
      have f4 : v < 2 ^ 60 := by rw [hv']; exact hv i' h1 (by lia)
      clear hlast
      with_reducible
       refine t_or ?_
       refine t_here ‹_› ‹_› ‹_› ‹_› ‹_› ‹_› (by k_dflt decide) (by first | with_reducible assumption | k_dflt exact rfl) ‹_› (by tb_start) ?_ (by with_unfolding_all rfl) (by k_dflt exact rfl); intro _ _ _ _ _
       refine z_eqc lit95 ?_
       refine Exists.intro _ (And.intro rfl ?_)
       refine dec_ff ‹_› ?_
       refine t_or ?_
       refine t_cmp ?_
       refine e_callH ‹_› ‹_› ‹_› ‹_› ‹_› ‹_› (by k_dflt decide) (by first | with_reducible assumption | k_dflt exact rfl) ‹_› (by tb_start) ‹_› ‹_› ‹_› ?_ (by k_dflt exact rfl); intro _ _ _ _ _
       refine u_digit_of ‹_› ‹_› ‹_› ‹_› (by k_dflt decide) ?_; intro _ _ _ _ _
       refine z_local ‹_› ‹_› ‹_› (by tb_start) ?_
       refine n_lt ?_
       refine Exists.intro _ (And.intro rfl ?_)
       refine dec_tt ‹_› ?_
       refine both_tt ?_
       refine x_assign ?_ (by k_dflt exact rfl)
       refine e_here ‹_› ‹_› ‹_› ‹_› ‹_› ‹_› (by k_dflt decide) (by first | with_reducible assumption | k_dflt exact rfl) ‹_› (by tb_start) ?_ (by k_dflt exact rfl); intro _ _ _ _ _
       refine z_store ‹_› ‹_› ‹_› ‹_› ?_; intro _ _ _ _
       refine x_if ?_
       refine t_cmpS ‹_› ‹_› ‹_› (by tb_start) ?_ (by with_unfolding_all rfl)
       refine z_nec lit95 ?_
       refine Exists.intro _ (And.intro rfl ?_)
       refine dec_tt ‹_› ?_
       refine x_app ?_
       refine x_assign ?_ (by k_dflt exact rfl)
       refine PySem.wpAny_BinOp ?_
       refine e_binNN ‹_› ‹_› ‹_› (by tb_start) ‹_› (by tb_start) ?_
       refine d_mul (by first | with_reducible assumption | decide) ?_
       refine e_call1 ‹_› ‹_› ‹_› ‹_› ‹_› ‹_› (by tb_start) ?_
       refine u_digit_of ‹_› ‹_› ‹_› ‹_› (by k_dflt decide) ?_; intro _ _ _ _ _
       refine d_add ?_
       refine z_store ‹_› ‹_› ‹_› ‹_› ?_; intro _ _ _ _
       refine x_app0 ?_
       refine x_augAtK ‹_› ‹_› ‹_› ‹_› (by tb_start) ‹_› ‹_› ?_; intro _ _ _ _ _ _ _
       refine x_nil ?_
      with_reducible refine loop_next (k := n) (by assumption) (by assumption) (Nat.lt_succ_self _) ?_
      refine ⟨i' + 1, _, _, _, by lia, by lia, ?_, by tb_start, by tb_start, by tb_start, by assumption, by lcg_sub, .inr ⟨e, he, hde, by tb_start⟩⟩
      rw [cut_snoc h1 he, decV_snoc, hv']
theorem ct_refuse_real (KF : Kf W A) (L : LexS A a cs i tk fl news) (hl : cs.length ≤ 100000) {o : Option Nat} (ho : cs[i]? = o) (H : NumEnd o) {v : Value} :
    Ct W A.refuse_real [.ref a.lx, v] 2 news (fun r l => r = .none ∧ l = news) := by
  have f1 := H.dot
  have f2 := H.e1
  have f3 := H.e2
  have f4 := H.rl
  with_reducible refine enter KF.d_refuse_real.fn (fun _ _ _ _ _ _ => by kernel_rfl) (locs (by kernel_rfl)) (by kernel_rfl) (by kernel_rfl) (by kernel_rfl) (of_decide_eq_true (by kernel_rfl)) ?_
  intro c base g m s h tk₀ S F N hm
  have hm_lx : m ("lx" : Str) = some _ := (hm _).trans rfl
  have hm_begin : m ("begin" : Str) = some _ := (hm _).trans rfl
  clear hm
  have kl_lx : Lc (dScope (defAt 37)) "lx" := ⟨by kernel_rfl, by kernel_rfl⟩
  have kl_begin : Lc (dScope (defAt 37)) "begin" := ⟨by kernel_rfl, by kernel_rfl⟩
  have kl_c : Lc (dScope (defAt 37)) "c" := ⟨by kernel_rfl, by kernel_rfl⟩
  have kl_real : Lc (dScope (defAt 37)) "real" := ⟨by kernel_rfl, by kernel_rfl⟩
  have kl_behind : Lc (dScope (defAt 37)) "behind" := ⟨by kernel_rfl, by kernel_rfl⟩
  have kg_REAL_ENDS : Gb (dScope (defAt 37)) "REAL_ENDS" := ⟨by kernel_rfl, by kernel_rfl⟩
  have gg_REAL_ENDS := KF.t_REAL_ENDS.1
  have kg_LeftOut : Gb (dScope (defAt 37)) "LeftOut" := ⟨by kernel_rfl, by kernel_rfl⟩
  have kg_digit_of : Gb (dScope (defAt 37)) "digit_of" := ⟨by kernel_rfl, by kernel_rfl⟩
  have kk_digit_of := KF.d_digit_of.keep
  have gg_digit_of := KF.g_digit_of
  have kk_here := KF.m_here.keep
  have kk_peek := KF.m_peek.keep
  show wpAny _ _ (execs (_ :: _) _) _ _ _
  have kd_REAL := KF.t_REAL_ENDS.2
  with_reducible
   refine x_assign ?_ (by k_dflt exact rfl)
   refine e_here ‹_› ‹_› ‹_› ‹_› ‹_› ‹_› (by k_dflt decide) (by first | with_reducible assumption | k_dflt exact rfl) ‹_› (by tb_start) ?_ (by k_dflt exact rfl); intro _ _ _ _ _
   refine z_store ‹_› ‹_› ‹_› ‹_› ?_; intro _ _ _ _
   refine x_assign ?_ (by k_dflt exact rfl)
   refine v_cmp ?_
   refine z_local ‹_› ‹_› ‹_› (by tb_start) ?_
   refine z_global ‹_› ‹_› ‹_› ‹_› ?_
   refine z_inC ‹_› ‹_› ‹_› ?_; intro _
   refine z_store ‹_› ‹_› ‹_› ‹_› ?_; intro _ _ _ _
   refine x_if ?_
   refine t_and ?_
   refine t_cmpS ‹_› ‹_› ‹_› (by tb_start) ?_ (by with_unfolding_all rfl)
   refine z_eqc lit46 ?_
   refine Exists.intro _ (And.intro rfl ?_)
   refine dec_ff ‹_› ?_
   refine both_ff ?_
   refine x_app0 ?_
   refine x_if ?_
   refine t_or ?_
   refine t_cmpS ‹_› ‹_› ‹_› (by tb_start) ?_ (by with_unfolding_all rfl)
   refine z_eqc lit101 ?_
   refine Exists.intro _ (And.intro rfl ?_)
   refine dec_ff ‹_› ?_
   refine t_or ?_
   refine t_cmpS ‹_› ‹_› ‹_› (by tb_start) ?_ (by with_unfolding_all rfl)
   refine z_eqc lit69 ?_
   refine Exists.intro _ (And.intro rfl ?_)
   refine dec_ff ‹_› ?_
   refine PyProof.Rows.isTrue_or_nil ?_
   refine both_ff ?_
   refine x_app0 ?_
   refine x_if ?_
   refine t_name ?_
   refine z_local ‹_› ‹_› ‹_› (by tb_start) ?_
   refine Exists.intro _ (And.intro rfl ?_)
   refine dec_ff ‹_› ?_
   refine x_app0 ?_
   refine x_nil ?_
   refine z_end ‹_› ‹_› ?_
  exact ⟨rfl, rfl⟩
theorem ct_read_int_word (KF : Kf W A) (L : LexS A a cs i tk fl news) (hl : cs.length ≤ 100000) {o : Option Nat} (ho : cs[i]? = o) (H : NumEnd o) :
    Ct W A.read_int_word [.ref a.lx] 2 news (fun r l => (∃ t, r = .str (strS []) t) ∧ l = news) := by
  have f1 := H.u1
  have f2 := H.u2
  have f3 := H.l1
  have f4 := H.l2
  with_reducible refine enter KF.d_read_int_word.fn (fun _ _ _ _ _ _ => by kernel_rfl) (locs (by kernel_rfl)) (by kernel_rfl) (by kernel_rfl) (by kernel_rfl) (of_decide_eq_true (by kernel_rfl)) ?_
  intro c base g m s h tk₀ S F N hm
  have hm_lx : m ("lx" : Str) = some _ := (hm _).trans rfl
  clear hm
  have kl_lx : Lc (dScope (defAt 38)) "lx" := ⟨by kernel_rfl, by kernel_rfl⟩
  have kl_has_u : Lc (dScope (defAt 38)) "has_u" := ⟨by kernel_rfl, by kernel_rfl⟩
  have kl_has_l : Lc (dScope (defAt 38)) "has_l" := ⟨by kernel_rfl, by kernel_rfl⟩
  have kl_word : Lc (dScope (defAt 38)) "word" := ⟨by kernel_rfl, by kernel_rfl⟩
  have kl_c : Lc (dScope (defAt 38)) "c" := ⟨by kernel_rfl, by kernel_rfl⟩
  have kk_here := KF.m_here.keep
  show wpAny _ _ (execs (_ :: _) _) _ _ _
  with_reducible
   refine x_assign ?_ (by k_dflt exact rfl)
   refine z_bool ?_
   refine z_store ‹_› ‹_› ‹_› ‹_› ?_; intro _ _ _ _
   refine x_assign ?_ (by k_dflt exact rfl)
   refine z_bool ?_
   refine z_store ‹_› ‹_› ‹_› ‹_› ?_; intro _ _ _ _
  with_reducible refine x_while (fun n m' l => m' ("lx" : Str) = some (.ref a.lx) ∧ m' ("has_u" : Str) = some (.bool false) ∧ m' ("has_l" : Str) = some (.bool false) ∧ l = news) 0 (by assumption) (by assumption) ?_ ?_
  · exact ⟨by tb_start, by tb_start, by tb_start, rfl⟩
  · rintro n h tk' m' l F N ⟨hm1, hm2, hm3, rfl⟩
    clear hm_lx
    with_reducible
     refine t_const ?_
     refine both_tt ?_
     refine x_assign ?_ (by k_dflt exact rfl)
     refine e_here ‹_› ‹_› ‹_› ‹_› ‹_› ‹_› (by k_dflt decide) (by first | with_reducible assumption | k_dflt exact rfl) ‹_› (by tb_start) ?_ (by k_dflt exact rfl); intro _ _ _ _ _
     refine z_store ‹_› ‹_› ‹_› ‹_› ?_; intro _ _ _ _
     refine x_if ?_
     refine t_and ?_
     refine t_or ?_
     refine t_cmpS ‹_› ‹_› ‹_› (by tb_start) ?_ (by with_unfolding_all rfl)
     refine z_eqc lit117 ?_
     refine Exists.intro _ (And.intro rfl ?_)
     refine dec_ff ‹_› ?_
     refine t_or ?_
     refine t_cmpS ‹_› ‹_› ‹_› (by tb_start) ?_ (by with_unfolding_all rfl)
     refine z_eqc lit85 ?_
     refine Exists.intro _ (And.intro rfl ?_)
     refine dec_ff ‹_› ?_
     refine PyProof.Rows.isTrue_or_nil ?_
     refine both_ff ?_
     refine both_ff ?_
     refine x_app ?_
     refine x_if ?_
     refine t_and ?_
     refine t_or ?_
     refine t_cmpS ‹_› ‹_› ‹_› (by tb_start) ?_ (by with_unfolding_all rfl)
     refine z_eqc lit108 ?_
     refine Exists.intro _ (And.intro rfl ?_)
     refine dec_ff ‹_› ?_
     refine t_or ?_
     refine t_cmpS ‹_› ‹_› ‹_› (by tb_start) ?_ (by with_unfolding_all rfl)
     refine z_eqc lit76 ?_
     refine Exists.intro _ (And.intro rfl ?_)
     refine dec_ff ‹_› ?_
     refine PyProof.Rows.isTrue_or_nil ?_
     refine both_ff ?_
     refine both_ff ?_
     refine x_app ?_
     refine x_break ?_
    with_reducible refine loop_brk ?_
    with_reducible
     refine x_assign ?_ (by k_dflt exact rfl)
     refine d_str ?_
     refine z_store ‹_› ‹_› ‹_› ‹_› ?_; intro _ _ _ _
     refine x_if ?_
     refine t_name ?_
     refine z_local ‹_› ‹_› ‹_› (by tb_start) ?_
     refine Exists.intro _ (And.intro rfl ?_)
     refine both_ff ?_
     refine x_app0 ?_
     refine x_if ?_
     refine t_name ?_
     refine z_local ‹_› ‹_› ‹_› (by tb_start) ?_
     refine Exists.intro _ (And.intro rfl ?_)
     refine both_ff ?_
     refine x_app0 ?_
     refine x_ret ?_
     refine z_local ‹_› ‹_› ‹_› (by tb_start) ?_
     refine z_done ‹_› ‹_› ?_
    exact ⟨⟨_, by rw [lit_nil]⟩, rfl⟩
end
end Mine
end
section
open PySem PySem.W PySem.Calls PySem.Spec PyProof.Rows
set_option Elab.async false
set_option maxRecDepth 100000
set_option maxHeartbeats 2000000
namespace Mine
section
variable {W : Wd} {A : Ad} {a : La} {base g h : Heap} {c : Cx} {sc : Scope} {n : Nat} {m : Str → Option Value} {news : Led} {s : Shared} {tk' : Nat} {E : Value → Shared → Prop} {Q : Value → Shared → Prop} {cs : Cs} {i j : Nat} {tk fl : List Dat} {o : Option Nat} {t : Tok} {v : Value}
theorem u_read_digits (S : Wk W base c g sc n) (F : Fr g c.L h m) (N : News g c.L h news) (KF : Kf W A) (L : LexS A a cs i tk fl news) (hl : cs.length ≤ 100000) (hij : i < j) (hd : ∀ k, i ≤ k → k < j → ∃ c, cs[k]? = some c ∧ isDig c = true) (hv : ∀ k, i ≤ k → k ≤ j → decV (cut cs i k) < 2 ^ 60)
    (ho : cs[j]? = o) (H : NumEnd o) (hn : 2 ≤ n)
    (hq : ∀ q t h' tk' news', Fr g c.L h' m → News g c.L h' news' → (q, tupOf [.int (decV (cut cs i j) : Nat) t, .bool true]) ∈ news' → LexS A a cs j tk fl news' → Kp a.S news news' → Q (.ref q) (st s h' tk')) : wpAny W.M c.A (call (.ref A.read_digits) [.ref a.lx, .int ((10 : Nat) : Int) t]) Q E (st s h tk') :=
  z_use S F N (ct_read_digits KF L hl hij hd hv ho H) hn fun r l h' tk' F' N' p => by obtain ⟨⟨q, t, rfl, hm⟩, L', K'⟩ := p; exact hq q t h' tk' l F' N' hm L' K'
theorem u_refuse_real (S : Wk W base c g sc n) (F : Fr g c.L h m) (N : News g c.L h news) (KF : Kf W A) (L : LexS A a cs i tk fl news) (hl : cs.length ≤ 100000) (ho : cs[i]? = o) (H : NumEnd o) (hn : 2 ≤ n)
    (hq : ∀ h' tk', Fr g c.L h' m → News g c.L h' news → Q .none (st s h' tk')) : wpAny W.M c.A (call (.ref A.refuse_real) [.ref a.lx, v]) Q E (st s h tk') :=
  z_use S F N (ct_refuse_real KF L hl ho H) hn fun r l h' tk' F' N' p => by obtain ⟨rfl, rfl⟩ := p; exact hq h' tk' F' N'
theorem u_read_int_word (S : Wk W base c g sc n) (F : Fr g c.L h m) (N : News g c.L h news) (KF : Kf W A) (L : LexS A a cs i tk fl news) (hl : cs.length ≤ 100000) (ho : cs[i]? = o) (H : NumEnd o) (hn : 2 ≤ n)
    (hq : ∀ t h' tk', Fr g c.L h' m → News g c.L h' news → Q (.str (strS []) t) (st s h' tk')) : wpAny W.M c.A (call (.ref A.read_int_word) [.ref a.lx]) Q E (st s h tk') :=
  z_use S F N (ct_read_int_word KF L hl ho H) hn fun r l h' tk' F' N' p => by obtain ⟨⟨t, rfl⟩, rfl⟩ := p; exact hq t h' tk' F' N'
end
section
variable {W : Wd} {A : Ad} {a : La} {news : Led} {cs : Cs} {i : Nat} {tk fl : List Dat}
theorem ct_lex_int (KF : Kf W A) (L : LexS A a cs i tk fl news) (hl : cs.length ≤ 100000) (hz : tk.length ≤ 100000) {j : Nat} (hij : i < j) (hd : ∀ k, i ≤ k → k < j → ∃ c, cs[k]? = some c ∧ isDig c = true) (hv : ∀ k, i ≤ k → k ≤ j → decV (cut cs i k) < 2 ^ 60)
    {o : Option Nat} (ho : cs[j]? = o) (H : NumEnd o) {e : Nat} (he : cs[i]? = some e) (h48 : e = 48 → j = i + 1) :
    Ct W A.lex_int [.ref a.lx] 3 news (fun r l => r = .none ∧ LexS A a cs j (tk ++ [tokD 3 (.tuple [.int (decV (cut cs i j) : Nat), strD []]) i]) fl l ∧ Kp a.S news l) := by
  have f5 : decide (18446744073709551615 < decV (cut cs i j)) = false := decide_eq_false (by have := hv j (Nat.le_of_lt hij) (Nat.le_refl _); lia)
  have f6 := H.dg
  by_cases h0 : e = 48
  · obtain rfl := h48 h0
    subst h0
    have f1 := H.x1
    have f2 := H.x2
    have f3 := H.b1
    have f4 := H.b2
    with_reducible refine enter KF.d_lex_int.fn (fun _ _ _ _ _ _ => by kernel_rfl) (locs (by kernel_rfl)) (by kernel_rfl) (by kernel_rfl) (by kernel_rfl) (of_decide_eq_true (by kernel_rfl)) ?_
    intro c base g m s h tk₀ S F N hm
    have hm_lx : m ("lx" : Str) = some _ := (hm _).trans rfl
    clear hm
    have kl_lx : Lc (dScope (defAt 35)) "lx" := ⟨by kernel_rfl, by kernel_rfl⟩
    have kl_begin : Lc (dScope (defAt 35)) "begin" := ⟨by kernel_rfl, by kernel_rfl⟩
    have kl_base : Lc (dScope (defAt 35)) "base" := ⟨by kernel_rfl, by kernel_rfl⟩
    have kl_word : Lc (dScope (defAt 35)) "word" := ⟨by kernel_rfl, by kernel_rfl⟩
    have kl_number : Lc (dScope (defAt 35)) "number" := ⟨by kernel_rfl, by kernel_rfl⟩
    have kl_good : Lc (dScope (defAt 35)) "good" := ⟨by kernel_rfl, by kernel_rfl⟩
    have kg_read_digits : Gb (dScope (defAt 35)) "read_digits" := ⟨by kernel_rfl, by kernel_rfl⟩
    have kk_read_digits := KF.d_read_digits.keep
    have gg_read_digits := KF.g_read_digits
    have kg_read_int_word : Gb (dScope (defAt 35)) "read_int_word" := ⟨by kernel_rfl, by kernel_rfl⟩
    have kk_read_int_word := KF.d_read_int_word.keep
    have gg_read_int_word := KF.g_read_int_word
    have kg_TK_INT : Gb (dScope (defAt 35)) "TK_INT" := ⟨by kernel_rfl, by kernel_rfl⟩
    obtain ⟨ti_TK_INT, gg_TK_INT⟩ := KF.i_TK_INT
    have kg_refuse_real : Gb (dScope (defAt 35)) "refuse_real" := ⟨by kernel_rfl, by kernel_rfl⟩
    have kk_refuse_real := KF.d_refuse_real.keep
    have gg_refuse_real := KF.g_refuse_real
    have kg_digit_of : Gb (dScope (defAt 35)) "digit_of" := ⟨by kernel_rfl, by kernel_rfl⟩
    have kk_digit_of := KF.d_digit_of.keep
    have gg_digit_of := KF.g_digit_of
    have kg_MOST_INT : Gb (dScope (defAt 35)) "MOST_INT" := ⟨by kernel_rfl, by kernel_rfl⟩
    obtain ⟨ti_MOST_INT, gg_MOST_INT⟩ := KF.i_MOST_INT
    have kk_put := KF.m_put.keep
    have kk_fault := KF.m_fault.keep
    have kk_here := KF.m_here.keep
    have kk_peek := KF.m_peek.keep
    show wpAny _ _ (execs (_ :: _) _) _ _ _
    with_reducible
     refine x_assign ?_ (by k_dflt exact rfl)
     refine z_aAt ‹_› ‹_› ‹_› ‹_› (by tb_start) ‹_› ‹_› ?_; intro _ _
     refine z_store ‹_› ‹_› ‹_› ‹_› ?_; intro _ _ _ _
     refine x_assign ?_ (by k_dflt exact rfl)
     refine d_num ?_
     refine z_store ‹_› ‹_› ‹_› ‹_› ?_; intro _ _ _ _
     refine x_if ?_
     refine t_and ?_
     refine t_here ‹_› ‹_› ‹_› ‹_› ‹_› ‹_› (by k_dflt decide) (by first | with_reducible assumption | k_dflt exact rfl) ‹_› (by tb_start) ?_ (by with_unfolding_all rfl) (by k_dflt exact rfl); intro _ _ _ _ _
     refine z_eqc lit48 ?_
     refine Exists.intro _ (And.intro rfl ?_)
     refine dec_tt (by k_dflt exact rfl) ?_
     refine t_and ?_
     refine t_or ?_
     refine t_peek ‹_› ‹_› ‹_› ‹_› ‹_› ‹_› (by k_dflt decide) (by first | with_reducible assumption | k_dflt exact rfl) ‹_› (by tb_start) ?_ (by with_unfolding_all rfl) (by k_dflt exact rfl); intro _ _ _ _ _
     refine z_eqc lit120 ?_
     refine Exists.intro _ (And.intro rfl ?_)
     refine dec_ff ‹_› ?_
     refine t_or ?_
     refine t_peek ‹_› ‹_› ‹_› ‹_› ‹_› ‹_› (by k_dflt decide) (by first | with_reducible assumption | k_dflt exact rfl) ‹_› (by tb_start) ?_ (by with_unfolding_all rfl) (by k_dflt exact rfl); intro _ _ _ _ _
     refine z_eqc lit88 ?_
     refine Exists.intro _ (And.intro rfl ?_)
     refine dec_ff ‹_› ?_
     refine PyProof.Rows.isTrue_or_nil ?_
     refine both_ff ?_
     refine both_ff ?_
     refine x_app ?_
     refine x_if ?_
     refine t_and ?_
     refine t_here ‹_› ‹_› ‹_› ‹_› ‹_› ‹_› (by k_dflt decide) (by first | with_reducible assumption | k_dflt exact rfl) ‹_› (by tb_start) ?_ (by with_unfolding_all rfl) (by k_dflt exact rfl); intro _ _ _ _ _
     refine z_eqc lit48 ?_
     refine Exists.intro _ (And.intro rfl ?_)
     refine dec_tt (by k_dflt exact rfl) ?_
     refine t_and ?_
     refine t_or ?_
     refine t_peek ‹_› ‹_› ‹_› ‹_› ‹_› ‹_› (by k_dflt decide) (by first | with_reducible assumption | k_dflt exact rfl) ‹_› (by tb_start) ?_ (by with_unfolding_all rfl) (by k_dflt exact rfl); intro _ _ _ _ _
     refine z_eqc lit98 ?_
     refine Exists.intro _ (And.intro rfl ?_)
     refine dec_ff ‹_› ?_
     refine t_or ?_
     refine t_peek ‹_› ‹_› ‹_› ‹_› ‹_› ‹_› (by k_dflt decide) (by first | with_reducible assumption | k_dflt exact rfl) ‹_› (by tb_start) ?_ (by with_unfolding_all rfl) (by k_dflt exact rfl); intro _ _ _ _ _
     refine z_eqc lit66 ?_
     refine Exists.intro _ (And.intro rfl ?_)
     refine dec_ff ‹_› ?_
     refine PyProof.Rows.isTrue_or_nil ?_
     refine both_ff ?_
     refine both_ff ?_
     refine x_app0 ?_
     refine x_app0 ?_
     refine x_if ?_
     refine t_cmpN ‹_› ‹_› ‹_› (by tb_start) ?_ (by with_unfolding_all rfl)
     refine n_ne ?_
     refine Exists.intro _ (And.intro rfl ?_)
     refine dec_ff (by k_dflt exact rfl) ?_
     refine x_app0 ?_
     refine x_assignT ?_ (by k_dflt exact rfl) (by k_dflt exact rfl)
     refine e_call2 ‹_› ‹_› ‹_› ‹_› ‹_› ‹_› (by tb_start) ‹_› (by tb_start) ?_
     refine u_read_digits ‹_› ‹_› ‹_› ‹_› ‹_› ‹_› ‹_› ‹_› ‹_› ‹_› ‹_› (by k_dflt decide) ?_; intro _ _ _ _ _ _ _ _ _ _
     refine z_unpack2 ‹_› ‹_› ‹_› ‹_› ‹_› ‹_› ?_; intro _ _ _ _
     refine x_if ?_
     refine t_cmpN ‹_› ‹_› ‹_› (by tb_start) ?_ (by with_unfolding_all rfl)
     refine n_eq ?_
     refine Exists.intro _ (And.intro rfl ?_)
     refine dec_tt (by k_dflt exact rfl) ?_
     refine x_app ?_
     refine z_expr ‹_› ?_ (by k_dflt exact rfl)
     refine e_call2 ‹_› ‹_› ‹_› ‹_› ‹_› ‹_› (by tb_start) ‹_› (by tb_start) ?_
     refine u_refuse_real ‹_› ‹_› ‹_› ‹_› ‹_› ‹_› ‹_› ‹_› (by k_dflt decide) ?_; intro _ _ _ _
     refine x_app0 ?_
     refine x_if ?_
     refine t_cmp ?_
     refine e_callH ‹_› ‹_› ‹_› ‹_› ‹_› ‹_› (by k_dflt decide) (by first | with_reducible assumption | k_dflt exact rfl) ‹_› (by tb_start) ‹_› ‹_› ‹_› ?_ (by k_dflt exact rfl); intro _ _ _ _ _
     refine u_digit_of ‹_› ‹_› ‹_› ‹_› (by k_dflt decide) ?_; intro _ _ _ _ _
     refine d_num ?_
     refine n_lt ?_
     refine Exists.intro _ (And.intro rfl ?_)
     refine dec_ff ‹_› ?_
     refine x_app0 ?_
     refine x_assign ?_ (by k_dflt exact rfl)
     refine e_call1 ‹_› ‹_› ‹_› ‹_› ‹_› ‹_› (by tb_start) ?_
     refine u_read_int_word ‹_› ‹_› ‹_› ‹_› ‹_› ‹_› ‹_› ‹_› (by k_dflt decide) ?_; intro _ _ _ _ _
     refine z_store ‹_› ‹_› ‹_› ‹_› ?_; intro _ _ _ _
     refine x_if ?_
     refine t_not ?_
     refine t_name ?_
     refine z_local ‹_› ‹_› ‹_› (by tb_start) ?_
     refine Exists.intro _ (And.intro rfl ?_)
     refine dec_ff (by k_dflt exact rfl) ?_
     refine x_app ?_
     refine x_if ?_
     refine t_cmp ?_
     refine z_local ‹_› ‹_› ‹_› (by tb_start) ?_
     refine z_global ‹_› ‹_› ‹_› ‹_› ?_
     refine n_gt ?_
     refine Exists.intro _ (And.intro rfl ?_)
     refine dec_ff ‹_› ?_
     refine x_app0 ?_
     refine x_app0 ?_
     refine z_expr ‹_› ?_ (by k_dflt exact rfl)
     refine PyProof.Rows.MethodCall_ ?_ (by k_dflt exact rfl)
     refine z_local ‹_› ‹_› ‹_› (by tb_start) ?_
     refine m_lex ‹_› ‹_› ‹_› ‹_› ‹_› (Kf.m_put ‹_›) mem_here.2.2.1 ?_
     refine z_mcall ‹_› ‹_› ?_ (by k_dflt exact rfl) (by k_dflt exact rfl)
     refine z_args ?_ (by k_dflt exact rfl)
     refine z_global ‹_› ‹_› ‹_› ‹_› ?_
     refine z_args ?_ (by k_dflt exact rfl)
     refine PyProof.Rows.Tuple_ ?_
     refine z_args ?_ (by k_dflt exact rfl)
     refine z_local ‹_› ‹_› ‹_› (by tb_start) ?_
     refine z_args ?_ (by k_dflt exact rfl)
     refine z_local ‹_› ‹_› ‹_› (by tb_start) ?_
     refine z_args0 ?_
     refine z_tupL ‹_› ‹_› ‹_› (by first | with_reducible exact aparts_nil | with_reducible exact aparts_cons Apart.str aparts_nil | with_reducible exact aparts_cons Apart.int (aparts_cons Apart.str aparts_nil)) (by k_dflt exact Nat.le_of_ble_eq_true rfl) ?_; intro _ _ _ _ _ _ _ _ _
     refine z_args ?_ (by k_dflt exact rfl)
     refine z_local ‹_› ‹_› ‹_› (by tb_start) ?_
     refine z_args0 ?_
     refine And.intro (Exists.intro _ ‹_›) ?_
     refine u_put ‹_› ‹_› ‹_› ‹_› ‹_› ‹_› (by k_dflt decide) (by first | with_reducible assumption | ((with_reducible show Apart _ _ (Value.str _ _) _); with_reducible exact Apart.str) | ((with_reducible show Apart _ _ (Value.int _ _) _); with_reducible exact Apart.int)) ?_; intro _ _ _ _ _ _ _
     refine x_nil ?_
     refine z_end ‹_› ‹_› ?_
    exact ⟨rfl, by assumption, by lcg_sub⟩
  · have f1 : decide (some e = some 48) = false := decide_eq_false fun q => h0 (Option.some.inj q)
    with_reducible refine enter KF.d_lex_int.fn (fun _ _ _ _ _ _ => by kernel_rfl) (locs (by kernel_rfl)) (by kernel_rfl) (by kernel_rfl) (by kernel_rfl) (of_decide_eq_true (by kernel_rfl)) ?_
    intro c base g m s h tk₀ S F N hm
    have hm_lx : m ("lx" : Str) = some _ := (hm _).trans rfl
    clear hm
    have kl_lx : Lc (dScope (defAt 35)) "lx" := ⟨by kernel_rfl, by kernel_rfl⟩
    have kl_begin : Lc (dScope (defAt 35)) "begin" := ⟨by kernel_rfl, by kernel_rfl⟩
    have kl_base : Lc (dScope (defAt 35)) "base" := ⟨by kernel_rfl, by kernel_rfl⟩
    have kl_word : Lc (dScope (defAt 35)) "word" := ⟨by kernel_rfl, by kernel_rfl⟩
    have kl_number : Lc (dScope (defAt 35)) "number" := ⟨by kernel_rfl, by kernel_rfl⟩
    have kl_good : Lc (dScope (defAt 35)) "good" := ⟨by kernel_rfl, by kernel_rfl⟩
    have kg_read_digits : Gb (dScope (defAt 35)) "read_digits" := ⟨by kernel_rfl, by kernel_rfl⟩
    have kk_read_digits := KF.d_read_digits.keep
    have gg_read_digits := KF.g_read_digits
    have kg_read_int_word : Gb (dScope (defAt 35)) "read_int_word" := ⟨by kernel_rfl, by kernel_rfl⟩
    have kk_read_int_word := KF.d_read_int_word.keep
    have gg_read_int_word := KF.g_read_int_word
    have kg_TK_INT : Gb (dScope (defAt 35)) "TK_INT" := ⟨by kernel_rfl, by kernel_rfl⟩
    obtain ⟨ti_TK_INT, gg_TK_INT⟩ := KF.i_TK_INT
    have kg_refuse_real : Gb (dScope (defAt 35)) "refuse_real" := ⟨by kernel_rfl, by kernel_rfl⟩
    have kk_refuse_real := KF.d_refuse_real.keep
    have gg_refuse_real := KF.g_refuse_real
    have kg_digit_of : Gb (dScope (defAt 35)) "digit_of" := ⟨by kernel_rfl, by kernel_rfl⟩
    have kk_digit_of := KF.d_digit_of.keep
    have gg_digit_of := KF.g_digit_of
    have kg_MOST_INT : Gb (dScope (defAt 35)) "MOST_INT" := ⟨by kernel_rfl, by kernel_rfl⟩
    obtain ⟨ti_MOST_INT, gg_MOST_INT⟩ := KF.i_MOST_INT
    have kk_put := KF.m_put.keep
    have kk_fault := KF.m_fault.keep
    have kk_here := KF.m_here.keep
    have kk_peek := KF.m_peek.keep
    show wpAny _ _ (execs (_ :: _) _) _ _ _
    with_reducible
     refine x_assign ?_ (by k_dflt exact rfl)
     refine z_aAt ‹_› ‹_› ‹_› ‹_› (by tb_start) ‹_› ‹_› ?_; intro _ _
     refine z_store ‹_› ‹_› ‹_› ‹_› ?_; intro _ _ _ _
     refine x_assign ?_ (by k_dflt exact rfl)
     refine d_num ?_
     refine z_store ‹_› ‹_› ‹_› ‹_› ?_; intro _ _ _ _
     refine x_if ?_
     refine t_and ?_
     refine t_here ‹_› ‹_› ‹_› ‹_› ‹_› ‹_› (by k_dflt decide) (by first | with_reducible assumption | k_dflt exact rfl) ‹_› (by tb_start) ?_ (by with_unfolding_all rfl) (by k_dflt exact rfl); intro _ _ _ _ _
     refine z_eqc lit48 ?_
     refine Exists.intro _ (And.intro rfl ?_)
     refine dec_ff ‹_› ?_
     refine both_ff ?_
     refine x_app ?_
     refine x_if ?_
     refine t_and ?_
     refine t_here ‹_› ‹_› ‹_› ‹_› ‹_› ‹_› (by k_dflt decide) (by first | with_reducible assumption | k_dflt exact rfl) ‹_› (by tb_start) ?_ (by with_unfolding_all rfl) (by k_dflt exact rfl); intro _ _ _ _ _
     refine z_eqc lit48 ?_
     refine Exists.intro _ (And.intro rfl ?_)
     refine dec_ff ‹_› ?_
     refine both_ff ?_
     refine x_app0 ?_
     refine x_app0 ?_
     refine x_if ?_
     refine t_cmpN ‹_› ‹_› ‹_› (by tb_start) ?_ (by with_unfolding_all rfl)
     refine n_ne ?_
     refine Exists.intro _ (And.intro rfl ?_)
     refine dec_ff (by k_dflt exact rfl) ?_
     refine x_app0 ?_
     refine x_assignT ?_ (by k_dflt exact rfl) (by k_dflt exact rfl)
     refine e_call2 ‹_› ‹_› ‹_› ‹_› ‹_› ‹_› (by tb_start) ‹_› (by tb_start) ?_
     refine u_read_digits ‹_› ‹_› ‹_› ‹_› ‹_› ‹_› ‹_› ‹_› ‹_› ‹_› ‹_› (by k_dflt decide) ?_; intro _ _ _ _ _ _ _ _ _ _
     refine z_unpack2 ‹_› ‹_› ‹_› ‹_› ‹_› ‹_› ?_; intro _ _ _ _
     refine x_if ?_
     refine t_cmpN ‹_› ‹_› ‹_› (by tb_start) ?_ (by with_unfolding_all rfl)
     refine n_eq ?_
     refine Exists.intro _ (And.intro rfl ?_)
     refine dec_tt (by k_dflt exact rfl) ?_
     refine x_app ?_
     refine z_expr ‹_› ?_ (by k_dflt exact rfl)
     refine e_call2 ‹_› ‹_› ‹_› ‹_› ‹_› ‹_› (by tb_start) ‹_› (by tb_start) ?_
     refine u_refuse_real ‹_› ‹_› ‹_› ‹_› ‹_› ‹_› ‹_› ‹_› (by k_dflt decide) ?_; intro _ _ _ _
     refine x_app0 ?_
     refine x_if ?_
     refine t_cmp ?_
     refine e_callH ‹_› ‹_› ‹_› ‹_› ‹_› ‹_› (by k_dflt decide) (by first | with_reducible assumption | k_dflt exact rfl) ‹_› (by tb_start) ‹_› ‹_› ‹_› ?_ (by k_dflt exact rfl); intro _ _ _ _ _
     refine u_digit_of ‹_› ‹_› ‹_› ‹_› (by k_dflt decide) ?_; intro _ _ _ _ _
     refine d_num ?_
     refine n_lt ?_
     refine Exists.intro _ (And.intro rfl ?_)
     refine dec_ff ‹_› ?_
     refine x_app0 ?_
     refine x_assign ?_ (by k_dflt exact rfl)
     refine e_call1 ‹_› ‹_› ‹_› ‹_› ‹_› ‹_› (by tb_start) ?_
     refine u_read_int_word ‹_› ‹_› ‹_› ‹_› ‹_› ‹_› ‹_› ‹_› (by k_dflt decide) ?_; intro _ _ _ _ _
     refine z_store ‹_› ‹_› ‹_› ‹_› ?_; intro _ _ _ _
     refine x_if ?_
     refine t_not ?_
     refine t_name ?_
     refine z_local ‹_› ‹_› ‹_› (by tb_start) ?_
     refine Exists.intro _ (And.intro rfl ?_)
     refine dec_ff (by k_dflt exact rfl) ?_
     refine x_app ?_
     refine x_if ?_
     refine t_cmp ?_
     refine z_local ‹_› ‹_› ‹_› (by tb_start) ?_
     refine z_global ‹_› ‹_› ‹_› ‹_› ?_
     refine n_gt ?_
     refine Exists.intro _ (And.intro rfl ?_)
     refine dec_ff ‹_› ?_
     refine x_app0 ?_
     refine x_app0 ?_
     refine z_expr ‹_› ?_ (by k_dflt exact rfl)
     refine PyProof.Rows.MethodCall_ ?_ (by k_dflt exact rfl)
     refine z_local ‹_› ‹_› ‹_› (by tb_start) ?_
     refine m_lex ‹_› ‹_› ‹_› ‹_› ‹_› (Kf.m_put ‹_›) mem_here.2.2.1 ?_
     refine z_mcall ‹_› ‹_› ?_ (by k_dflt exact rfl) (by k_dflt exact rfl)
     refine z_args ?_ (by k_dflt exact rfl)
     refine z_global ‹_› ‹_› ‹_› ‹_› ?_
     refine z_args ?_ (by k_dflt exact rfl)
     refine PyProof.Rows.Tuple_ ?_
     refine z_args ?_ (by k_dflt exact rfl)
     refine z_local ‹_› ‹_› ‹_› (by tb_start) ?_
     refine z_args ?_ (by k_dflt exact rfl)
     refine z_local ‹_› ‹_› ‹_› (by tb_start) ?_
     refine z_args0 ?_
     refine z_tupL ‹_› ‹_› ‹_› (by first | with_reducible exact aparts_nil | with_reducible exact aparts_cons Apart.str aparts_nil | with_reducible exact aparts_cons Apart.int (aparts_cons Apart.str aparts_nil)) (by k_dflt exact Nat.le_of_ble_eq_true rfl) ?_; intro _ _ _ _ _ _ _ _ _
     refine z_args ?_ (by k_dflt exact rfl)
     refine z_local ‹_› ‹_› ‹_› (by tb_start) ?_
     refine z_args0 ?_
     refine And.intro (Exists.intro _ ‹_›) ?_
     refine u_put ‹_› ‹_› ‹_› ‹_› ‹_› ‹_› (by k_dflt decide) (by first | with_reducible assumption | ((with_reducible show Apart _ _ (Value.str _ _) _); with_reducible exact Apart.str) | ((with_reducible show Apart _ _ (Value.int _ _) _); with_reducible exact Apart.int)) ?_; intro _ _ _ _ _ _ _
     refine x_nil ?_
     refine z_end ‹_› ‹_› ?_
    exact ⟨rfl, by assumption, by lcg_sub⟩
end
end Mine
end
section
open PySem PySem.W PySem.Calls PySem.Spec PyProof.Rows
set_option Elab.async false
set_option maxRecDepth 100000
set_option maxHeartbeats 2000000
namespace Mine
theorem drop_at {cs l : Cs} {i : Nat} (h : cs.drop i = l) (k : Nat) : cs[i + k]? = l[k]? := by rw [← h, List.getElem?_drop]
theorem drop_cut {cs a r : Cs} {i j : Nat} (h : cs.drop i = a ++ r) (hj : j = i + a.length) : cut cs i j = a := by
  subst hj
  unfold cut
  rw [h, Nat.add_sub_cancel_left, List.take_left]
theorem drop_len {cs a r : Cs} {i : Nat} (h : cs.drop i = a ++ r) (hi : i ≤ cs.length) : i + a.length ≤ cs.length := by
  have := congrArg List.length h
  rw [List.length_drop, List.length_append] at this
  lia
theorem nameTo_of {cs n rest : Cs} {i : Nat} (h : cs.drop i = n ++ rest) (hi : i ≤ cs.length) (hn : IsName n) (hr : headOk (fun c => !namePart c) rest) : NameTo cs i (i + n.length) := by
  obtain ⟨⟨c, r, rfl, hc⟩, hp⟩ := hn
  refine ⟨Nat.le_add_right _ _, drop_len h hi, fun _ => ?_, fun e => ?_, fun k h1 h2 => ?_, fun _ => ?_⟩
  · have := drop_at h 0
    rw [Nat.add_zero] at this
    rw [this]
    exact hc
  · simp only [List.length_cons] at e; lia
  · have := drop_at h (k - i)
    rw [show i + (k - i) = k by lia, List.getElem?_append_left (by lia)] at this
    rw [this, List.getElem?_eq_getElem (by lia)]
    exact hp _ (List.getElem_mem _)
  · have := drop_at h (c :: r).length
    rw [List.getElem?_append_right (Nat.le_refl _), Nat.sub_self] at this
    rw [this]
    cases rest with
    | nil => rfl
    | cons d t =>
      have h2 : (!namePart d) = true := hr
      show namePart d = false
      simpa using h2
section
variable {W : Wd} {A : Ad} {a : La} {news : Led} {cs : Cs} {i : Nat} {tk fl : List Dat}
theorem ct_lex_at_verb (KF : Kf W A) (L : LexS A a cs i tk fl news) (hl : cs.length ≤ 100000) (hz : tk.length ≤ 100000) {j : Nat} (hij : i + 2 ≤ j) (hx : ∀ k, i + 2 ≤ k → k < j → cs[k]? ≠ some 34) (hc : ∀ c ∈ cs, c < 1114112)
    (hj : cs[j]? = some 34) (hj1 : cs[j + 1]? = some 34) (hj2 : cs[j + 2]? = some 10) (hj3 : cs[j + 3]? = some 34) (hj4 : decide (cs[j + 4]? = some 34) = false) (hq : decide (cs[i + 1]? = some 34) = true) :
    Ct W A.lex_at [.ref a.lx] 5 news (fun r l => r = .none ∧ LexS A a cs (j + 4) (tk ++ [tokD 4 (strD (units (cut cs (i + 2) j) ++ [34, 10])) i]) fl l ∧ Kp a.S news l) := by
  with_reducible refine enter KF.d_lex_at.fn (fun _ _ _ _ _ _ => by kernel_rfl) (locs (by kernel_rfl)) (by kernel_rfl) (by kernel_rfl) (by kernel_rfl) (of_decide_eq_true (by kernel_rfl)) ?_
  intro c base g m s h tk₀ S F N hm
  have hm_lx : m ("lx" : Str) = some _ := (hm _).trans rfl
  clear hm
  have kl_lx : Lc (dScope (defAt 33)) "lx" := ⟨by kernel_rfl, by kernel_rfl⟩
  have kl_begin : Lc (dScope (defAt 33)) "begin" := ⟨by kernel_rfl, by kernel_rfl⟩
  have kl_name : Lc (dScope (defAt 33)) "name" := ⟨by kernel_rfl, by kernel_rfl⟩
  have kg_take_name : Gb (dScope (defAt 33)) "take_name" := ⟨by kernel_rfl, by kernel_rfl⟩
  have kk_take_name := KF.d_take_name.keep
  have gg_take_name := KF.g_take_name
  have kg_read_verbatim : Gb (dScope (defAt 33)) "read_verbatim" := ⟨by kernel_rfl, by kernel_rfl⟩
  have kk_read_verbatim := KF.d_read_verbatim.keep
  have gg_read_verbatim := KF.g_read_verbatim
  have kg_WORDS : Gb (dScope (defAt 33)) "WORDS" := ⟨by kernel_rfl, by kernel_rfl⟩
  have gg_WORDS := KF.t_WORDS.1
  have kg_NEAR_WORDS : Gb (dScope (defAt 33)) "NEAR_WORDS" := ⟨by kernel_rfl, by kernel_rfl⟩
  have gg_NEAR_WORDS := KF.t_NEAR_WORDS.1
  have kg_TK_NAME : Gb (dScope (defAt 33)) "TK_NAME" := ⟨by kernel_rfl, by kernel_rfl⟩
  obtain ⟨ti_TK_NAME, gg_TK_NAME⟩ := KF.i_TK_NAME
  have kk_peek := KF.m_peek.keep
  have kk_fault := KF.m_fault.keep
  have kk_put := KF.m_put.keep
  show wpAny _ _ (execs (_ :: _) _) _ _ _
  with_reducible
   refine x_assign ?_ (by k_dflt exact rfl)
   refine z_aAt ‹_› ‹_› ‹_› ‹_› (by tb_start) ‹_› ‹_› ?_; intro _ _
   refine z_store ‹_› ‹_› ‹_› ‹_› ?_; intro _ _ _ _
   refine x_if ?_
   refine t_peek ‹_› ‹_› ‹_› ‹_› ‹_› ‹_› (by k_dflt decide) (by first | with_reducible assumption | k_dflt exact rfl) ‹_› (by tb_start) ?_ (by with_unfolding_all rfl) (by k_dflt exact rfl); intro _ _ _ _ _
   refine z_eqc lit34 ?_
   refine Exists.intro _ (And.intro rfl ?_)
   refine dec_tt ‹_› ?_
   refine x_app ?_
   refine z_expr ‹_› ?_ (by k_dflt exact rfl)
   refine e_call1 ‹_› ‹_› ‹_› ‹_› ‹_› ‹_› (by tb_start) ?_
   refine z_useL ‹_› ‹_› ‹_› (ct_read_verbatim ‹_› ‹_› ‹_› ‹_› ‹_› ‹_› ‹_› ‹_› ‹_› ‹_› ‹_› ‹_›) (by k_dflt decide) ?_; intro _ _ _ _ _ _ _
   refine x_app ?_
   refine x_ret0 ?_
   refine z_done ‹_› ‹_› ?_
  exact ⟨rfl, by assumption, by assumption⟩
theorem geO_some (k c : Nat) : geO k (some c) = decide (k ≤ c) := rfl
theorem leO_some (k c : Nat) : leO k (some c) = decide (c ≤ k) := rfl
theorem ne_some {c k : Nat} (h : c ≠ k) : decide (some c = some k) = false := decide_eq_false fun q => h (Option.some.inj q)
theorem eq_some {c k : Nat} (h : c = k) : decide (some c = some k) = true := decide_eq_true (congrArg _ h)
theorem one_name (KF : Kf W A) (L : LexS A a cs i tk fl news) (hl : cs.length ≤ 100000) (hz : tk.length ≤ 100000) {j c : Nat} (hc : cs[i]? = some c) (H : NameTo cs i j) (f1 : nsO (some c) = true) :
    Ct W A.lex_one [.ref a.lx] 6 news (fun r l => r = .none ∧ LexS A a cs j (tk ++ [tokD (if isWord (cut cs i j) then 2 else 1) (strD (cut cs i j)) i]) fl l ∧ Kp a.S news l) := by
  with_reducible refine enter KF.d_lex_one.fn (fun _ _ _ _ _ _ => by kernel_rfl) (locs (by kernel_rfl)) (by kernel_rfl) (by kernel_rfl) (by kernel_rfl) (of_decide_eq_true (by kernel_rfl)) ?_
  intro c base g m s h tk₀ S F N hm
  have hm_lx : m ("lx" : Str) = some _ := (hm _).trans rfl
  clear hm
  have kl_lx : Lc (dScope (defAt 23)) "lx" := ⟨by kernel_rfl, by kernel_rfl⟩
  have kl_c : Lc (dScope (defAt 23)) "c" := ⟨by kernel_rfl, by kernel_rfl⟩
  have kg_is_name_start : Gb (dScope (defAt 23)) "is_name_start" := ⟨by kernel_rfl, by kernel_rfl⟩
  have kk_is_name_start := KF.d_is_name_start.keep
  have gg_is_name_start := KF.g_is_name_start
  have kg_lex_name : Gb (dScope (defAt 23)) "lex_name" := ⟨by kernel_rfl, by kernel_rfl⟩
  have kk_lex_name := KF.d_lex_name.keep
  have gg_lex_name := KF.g_lex_name
  have kg_lex_int : Gb (dScope (defAt 23)) "lex_int" := ⟨by kernel_rfl, by kernel_rfl⟩
  have kk_lex_int := KF.d_lex_int.keep
  have gg_lex_int := KF.g_lex_int
  have kg_read_text : Gb (dScope (defAt 23)) "read_text" := ⟨by kernel_rfl, by kernel_rfl⟩
  have kk_read_text := KF.d_read_text.keep
  have gg_read_text := KF.g_read_text
  have kg_read_char : Gb (dScope (defAt 23)) "read_char" := ⟨by kernel_rfl, by kernel_rfl⟩
  have kk_read_char := KF.d_read_char.keep
  have gg_read_char := KF.g_read_char
  have kg_lex_at : Gb (dScope (defAt 23)) "lex_at" := ⟨by kernel_rfl, by kernel_rfl⟩
  have kk_lex_at := KF.d_lex_at.keep
  have gg_lex_at := KF.g_lex_at
  have kg_LeftOut : Gb (dScope (defAt 23)) "LeftOut" := ⟨by kernel_rfl, by kernel_rfl⟩
  have kg_digit_of : Gb (dScope (defAt 23)) "digit_of" := ⟨by kernel_rfl, by kernel_rfl⟩
  have kk_digit_of := KF.d_digit_of.keep
  have gg_digit_of := KF.g_digit_of
  have kg_read_sign : Gb (dScope (defAt 23)) "read_sign" := ⟨by kernel_rfl, by kernel_rfl⟩
  have kk_read_sign := KF.d_read_sign.keep
  have gg_read_sign := KF.g_read_sign
  have kk_here := KF.m_here.keep
  have kk_peek := KF.m_peek.keep
  show wpAny _ _ (execs (_ :: _) _) _ _ _
  with_reducible
   refine x_assign ?_ (by k_dflt exact rfl)
   refine e_here ‹_› ‹_› ‹_› ‹_› ‹_› ‹_› (by k_dflt decide) (by first | with_reducible assumption | k_dflt exact rfl) ‹_› (by tb_start) ?_ (by k_dflt exact rfl); intro _ _ _ _ _
   refine z_store ‹_› ‹_› ‹_› ‹_› ?_; intro _ _ _ _
   refine x_if ?_
   refine t_call ?_
   refine e_call1 ‹_› ‹_› ‹_› ‹_› ‹_› ‹_› (by tb_start) ?_
   refine u_is_name_start ‹_› ‹_› ‹_› ‹_› (by k_dflt decide) ?_; intro _ _ _ _
   refine Exists.intro _ (And.intro rfl ?_)
   refine dec_tt ‹_› ?_
   refine x_app ?_
   refine z_expr ‹_› ?_ (by k_dflt exact rfl)
   refine e_callNE ‹_› ‹_› ‹_› ‹_› ‹_› ‹_› (by tb_start) ?_ (by k_dflt exact rfl)
   refine z_aAt ‹_› ‹_› ‹_› ‹_› (by tb_start) ‹_› ‹_› ?_; intro _ _
   refine And.intro (Exists.intro _ ‹_›) ?_
   refine z_useL ‹_› ‹_› ‹_› (ct_lex_name ‹_› ‹_› ‹_› ‹_› ‹_› ) (by k_dflt decide) ?_; intro _ _ _ _ _ _ _
   refine x_app0 ?_
   refine x_nil ?_
   refine z_end ‹_› ‹_› ?_
  exact ⟨rfl, by assumption, by assumption⟩
theorem one_num (KF : Kf W A) (L : LexS A a cs i tk fl news) (hl : cs.length ≤ 100000) (hz : tk.length ≤ 100000) {j : Nat} (hij : i < j) (hd : ∀ k, i ≤ k → k < j → ∃ c, cs[k]? = some c ∧ isDig c = true) (hv : ∀ k, i ≤ k → k ≤ j → decV (cut cs i k) < 2 ^ 60)
    {o : Option Nat} (ho : cs[j]? = o) (H : NumEnd o) {e : Nat} (he : cs[i]? = some e) (h48 : e = 48 → j = i + 1) (f1 : nsO (some e) = false) (f2 : geO 48 (some e) = true) (f3 : leO 57 (some e) = true) :
    Ct W A.lex_one [.ref a.lx] 6 news (fun r l => r = .none ∧ LexS A a cs j (tk ++ [tokD 3 (.tuple [.int (decV (cut cs i j) : Nat), strD []]) i]) fl l ∧ Kp a.S news l) := by
  with_reducible refine enter KF.d_lex_one.fn (fun _ _ _ _ _ _ => by kernel_rfl) (locs (by kernel_rfl)) (by kernel_rfl) (by kernel_rfl) (by kernel_rfl) (of_decide_eq_true (by kernel_rfl)) ?_
  intro c base g m s h tk₀ S F N hm
  have hm_lx : m ("lx" : Str) = some _ := (hm _).trans rfl
  clear hm
  have kl_lx : Lc (dScope (defAt 23)) "lx" := ⟨by kernel_rfl, by kernel_rfl⟩
  have kl_c : Lc (dScope (defAt 23)) "c" := ⟨by kernel_rfl, by kernel_rfl⟩
  have kg_is_name_start : Gb (dScope (defAt 23)) "is_name_start" := ⟨by kernel_rfl, by kernel_rfl⟩
  have kk_is_name_start := KF.d_is_name_start.keep
  have gg_is_name_start := KF.g_is_name_start
  have kg_lex_name : Gb (dScope (defAt 23)) "lex_name" := ⟨by kernel_rfl, by kernel_rfl⟩
  have kk_lex_name := KF.d_lex_name.keep
  have gg_lex_name := KF.g_lex_name
  have kg_lex_int : Gb (dScope (defAt 23)) "lex_int" := ⟨by kernel_rfl, by kernel_rfl⟩
  have kk_lex_int := KF.d_lex_int.keep
  have gg_lex_int := KF.g_lex_int
  have kg_read_text : Gb (dScope (defAt 23)) "read_text" := ⟨by kernel_rfl, by kernel_rfl⟩
  have kk_read_text := KF.d_read_text.keep
  have gg_read_text := KF.g_read_text
  have kg_read_char : Gb (dScope (defAt 23)) "read_char" := ⟨by kernel_rfl, by kernel_rfl⟩
  have kk_read_char := KF.d_read_char.keep
  have gg_read_char := KF.g_read_char
  have kg_lex_at : Gb (dScope (defAt 23)) "lex_at" := ⟨by kernel_rfl, by kernel_rfl⟩
  have kk_lex_at := KF.d_lex_at.keep
  have gg_lex_at := KF.g_lex_at
  have kg_LeftOut : Gb (dScope (defAt 23)) "LeftOut" := ⟨by kernel_rfl, by kernel_rfl⟩
  have kg_digit_of : Gb (dScope (defAt 23)) "digit_of" := ⟨by kernel_rfl, by kernel_rfl⟩
  have kk_digit_of := KF.d_digit_of.keep
  have gg_digit_of := KF.g_digit_of
  have kg_read_sign : Gb (dScope (defAt 23)) "read_sign" := ⟨by kernel_rfl, by kernel_rfl⟩
  have kk_read_sign := KF.d_read_sign.keep
  have gg_read_sign := KF.g_read_sign
  have kk_here := KF.m_here.keep
  have kk_peek := KF.m_peek.keep
  show wpAny _ _ (execs (_ :: _) _) _ _ _
  with_reducible
   refine x_assign ?_ (by k_dflt exact rfl)
   refine e_here ‹_› ‹_› ‹_› ‹_› ‹_› ‹_› (by k_dflt decide) (by first | with_reducible assumption | k_dflt exact rfl) ‹_› (by tb_start) ?_ (by k_dflt exact rfl); intro _ _ _ _ _
   refine z_store ‹_› ‹_› ‹_› ‹_› ?_; intro _ _ _ _
   refine x_if ?_
   refine t_call ?_
   refine e_call1 ‹_› ‹_› ‹_› ‹_› ‹_› ‹_› (by tb_start) ?_
   refine u_is_name_start ‹_› ‹_› ‹_› ‹_› (by k_dflt decide) ?_; intro _ _ _ _
   refine Exists.intro _ (And.intro rfl ?_)
   refine dec_ff ‹_› ?_
   refine x_app ?_
   refine x_if ?_
   refine t_cmp2 ?_
   refine d_str ?_
   refine z_local ‹_› ‹_› ‹_› (by tb_start) ?_
   refine z_lec lit48 ?_
   refine Exists.intro _ (And.intro rfl ?_)
   refine dec_tt ‹_› ?_
   refine d_str ?_
   refine z_cle lit57 ?_
   refine Exists.intro _ (And.intro rfl ?_)
   refine dec_tt ‹_› ?_
   refine x_app ?_
   refine z_expr ‹_› ?_ (by k_dflt exact rfl)
   refine e_call1 ‹_› ‹_› ‹_› ‹_› ‹_› ‹_› (by tb_start) ?_
   refine z_useL ‹_› ‹_› ‹_› (ct_lex_int ‹_› ‹_› ‹_› ‹_› ‹_› ‹_› ‹_› ‹_› ‹_› ‹_› ‹_›) (by k_dflt decide) ?_; intro _ _ _ _ _ _ _
   refine x_app0 ?_
   refine x_app0 ?_
   refine x_nil ?_
   refine z_end ‹_› ‹_› ?_
  exact ⟨rfl, by assumption, by assumption⟩
theorem one_text (KF : Kf W A) (L : LexS A a cs i tk fl news) (hl : cs.length ≤ 100000) (hz : tk.length ≤ 100000) {j : Nat} (hc : cs[i]? = some 34) (hij : i + 1 ≤ j) (hx : ∀ k, i + 1 ≤ k → k < j → ∃ c, cs[k]? = some c ∧ c ≠ 34 ∧ c ≠ 92 ∧ lineEnd c = false ∧ c < 1114112) (hj : cs[j]? = some 34) :
    Ct W A.lex_one [.ref a.lx] 6 news (fun r l => r = .none ∧ LexS A a cs (j + 1) (tk ++ [tokD 4 (strD (units (cut cs (i + 1) j))) i]) fl l ∧ Kp a.S news l) := by
  have f1 : nsO (some 34) = false := by decide +kernel
  have f2 : geO 48 (some 34) = false := by decide
  with_reducible refine enter KF.d_lex_one.fn (fun _ _ _ _ _ _ => by kernel_rfl) (locs (by kernel_rfl)) (by kernel_rfl) (by kernel_rfl) (by kernel_rfl) (of_decide_eq_true (by kernel_rfl)) ?_
  intro c base g m s h tk₀ S F N hm
  have hm_lx : m ("lx" : Str) = some _ := (hm _).trans rfl
  clear hm
  have kl_lx : Lc (dScope (defAt 23)) "lx" := ⟨by kernel_rfl, by kernel_rfl⟩
  have kl_c : Lc (dScope (defAt 23)) "c" := ⟨by kernel_rfl, by kernel_rfl⟩
  have kg_is_name_start : Gb (dScope (defAt 23)) "is_name_start" := ⟨by kernel_rfl, by kernel_rfl⟩
  have kk_is_name_start := KF.d_is_name_start.keep
  have gg_is_name_start := KF.g_is_name_start
  have kg_lex_name : Gb (dScope (defAt 23)) "lex_name" := ⟨by kernel_rfl, by kernel_rfl⟩
  have kk_lex_name := KF.d_lex_name.keep
  have gg_lex_name := KF.g_lex_name
  have kg_lex_int : Gb (dScope (defAt 23)) "lex_int" := ⟨by kernel_rfl, by kernel_rfl⟩
  have kk_lex_int := KF.d_lex_int.keep
  have gg_lex_int := KF.g_lex_int
  have kg_read_text : Gb (dScope (defAt 23)) "read_text" := ⟨by kernel_rfl, by kernel_rfl⟩
  have kk_read_text := KF.d_read_text.keep
  have gg_read_text := KF.g_read_text
  have kg_read_char : Gb (dScope (defAt 23)) "read_char" := ⟨by kernel_rfl, by kernel_rfl⟩
  have kk_read_char := KF.d_read_char.keep
  have gg_read_char := KF.g_read_char
  have kg_lex_at : Gb (dScope (defAt 23)) "lex_at" := ⟨by kernel_rfl, by kernel_rfl⟩
  have kk_lex_at := KF.d_lex_at.keep
  have gg_lex_at := KF.g_lex_at
  have kg_LeftOut : Gb (dScope (defAt 23)) "LeftOut" := ⟨by kernel_rfl, by kernel_rfl⟩
  have kg_digit_of : Gb (dScope (defAt 23)) "digit_of" := ⟨by kernel_rfl, by kernel_rfl⟩
  have kk_digit_of := KF.d_digit_of.keep
  have gg_digit_of := KF.g_digit_of
  have kg_read_sign : Gb (dScope (defAt 23)) "read_sign" := ⟨by kernel_rfl, by kernel_rfl⟩
  have kk_read_sign := KF.d_read_sign.keep
  have gg_read_sign := KF.g_read_sign
  have kk_here := KF.m_here.keep
  have kk_peek := KF.m_peek.keep
  show wpAny _ _ (execs (_ :: _) _) _ _ _
  with_reducible
   refine x_assign ?_ (by k_dflt exact rfl)
   refine e_here ‹_› ‹_› ‹_› ‹_› ‹_› ‹_› (by k_dflt decide) (by first | with_reducible assumption | k_dflt exact rfl) ‹_› (by tb_start) ?_ (by k_dflt exact rfl); intro _ _ _ _ _
   refine z_store ‹_› ‹_› ‹_› ‹_› ?_; intro _ _ _ _
   refine x_if ?_
   refine t_call ?_
   refine e_call1 ‹_› ‹_› ‹_› ‹_› ‹_› ‹_› (by tb_start) ?_
   refine u_is_name_start ‹_› ‹_› ‹_› ‹_› (by k_dflt decide) ?_; intro _ _ _ _
   refine Exists.intro _ (And.intro rfl ?_)
   refine dec_ff ‹_› ?_
   refine x_app ?_
   refine x_if ?_
   refine t_cmp2 ?_
   refine d_str ?_
   refine z_local ‹_› ‹_› ‹_› (by tb_start) ?_
   refine z_lec lit48 ?_
   refine Exists.intro _ (And.intro rfl ?_)
   refine dec_ff ‹_› ?_
   refine both_ff ?_
   refine x_app ?_
   refine x_if ?_
   refine t_cmpS ‹_› ‹_› ‹_› (by tb_start) ?_ (by with_unfolding_all rfl)
   refine z_eqc lit34 ?_
   refine Exists.intro _ (And.intro rfl ?_)
   refine dec_tt (by k_dflt exact rfl) ?_
   refine x_app ?_
   refine z_expr ‹_› ?_ (by k_dflt exact rfl)
   refine e_call1 ‹_› ‹_› ‹_› ‹_› ‹_› ‹_› (by tb_start) ?_
   refine z_useL ‹_› ‹_› ‹_› (ct_read_text ‹_› ‹_› ‹_› ‹_› ‹_› ‹_› ‹_›) (by k_dflt decide) ?_; intro _ _ _ _ _ _ _
   refine x_app0 ?_
   refine x_app0 ?_
   refine x_app0 ?_
   refine x_nil ?_
   refine z_end ‹_› ‹_› ?_
  exact ⟨rfl, by assumption, by assumption⟩
theorem one_chr (KF : Kf W A) (L : LexS A a cs i tk fl news) (hl : cs.length ≤ 100000) (hz : tk.length ≤ 100000) (hz' : fl.length ≤ 100000) (hc₀ : cs[i]? = some 39) {k : Nat} (hk : k < 1114112) (h1 : k ≠ 39) (h2 : k ≠ 92) (h3 : lineEnd k = false) (hc : cs[i + 1]? = some k) (hc' : cs[i + 1 + 1]? = some 39) :
    Ct W A.lex_one [.ref a.lx] 6 news (fun r l => r = .none ∧ LexS A a cs (i + 3) (tk ++ [tokD 5 (.int (if 65535 < k then 0 else k)) i]) (fl ++ (if 65535 < k then [fltD 1012 i []] else [])) l ∧ Kp a.S news l) := by
  have f1 : nsO (some 39) = false := by decide +kernel
  have f2 : geO 48 (some 39) = false := by decide
  have f3 : decide (some 39 = some 34) = false := by decide
  with_reducible refine enter KF.d_lex_one.fn (fun _ _ _ _ _ _ => by kernel_rfl) (locs (by kernel_rfl)) (by kernel_rfl) (by kernel_rfl) (by kernel_rfl) (of_decide_eq_true (by kernel_rfl)) ?_
  intro c base g m s h tk₀ S F N hm
  have hm_lx : m ("lx" : Str) = some _ := (hm _).trans rfl
  clear hm
  have kl_lx : Lc (dScope (defAt 23)) "lx" := ⟨by kernel_rfl, by kernel_rfl⟩
  have kl_c : Lc (dScope (defAt 23)) "c" := ⟨by kernel_rfl, by kernel_rfl⟩
  have kg_is_name_start : Gb (dScope (defAt 23)) "is_name_start" := ⟨by kernel_rfl, by kernel_rfl⟩
  have kk_is_name_start := KF.d_is_name_start.keep
  have gg_is_name_start := KF.g_is_name_start
  have kg_lex_name : Gb (dScope (defAt 23)) "lex_name" := ⟨by kernel_rfl, by kernel_rfl⟩
  have kk_lex_name := KF.d_lex_name.keep
  have gg_lex_name := KF.g_lex_name
  have kg_lex_int : Gb (dScope (defAt 23)) "lex_int" := ⟨by kernel_rfl, by kernel_rfl⟩
  have kk_lex_int := KF.d_lex_int.keep
  have gg_lex_int := KF.g_lex_int
  have kg_read_text : Gb (dScope (defAt 23)) "read_text" := ⟨by kernel_rfl, by kernel_rfl⟩
  have kk_read_text := KF.d_read_text.keep
  have gg_read_text := KF.g_read_text
  have kg_read_char : Gb (dScope (defAt 23)) "read_char" := ⟨by kernel_rfl, by kernel_rfl⟩
  have kk_read_char := KF.d_read_char.keep
  have gg_read_char := KF.g_read_char
  have kg_lex_at : Gb (dScope (defAt 23)) "lex_at" := ⟨by kernel_rfl, by kernel_rfl⟩
  have kk_lex_at := KF.d_lex_at.keep
  have gg_lex_at := KF.g_lex_at
  have kg_LeftOut : Gb (dScope (defAt 23)) "LeftOut" := ⟨by kernel_rfl, by kernel_rfl⟩
  have kg_digit_of : Gb (dScope (defAt 23)) "digit_of" := ⟨by kernel_rfl, by kernel_rfl⟩
  have kk_digit_of := KF.d_digit_of.keep
  have gg_digit_of := KF.g_digit_of
  have kg_read_sign : Gb (dScope (defAt 23)) "read_sign" := ⟨by kernel_rfl, by kernel_rfl⟩
  have kk_read_sign := KF.d_read_sign.keep
  have gg_read_sign := KF.g_read_sign
  have kk_here := KF.m_here.keep
  have kk_peek := KF.m_peek.keep
  show wpAny _ _ (execs (_ :: _) _) _ _ _
  with_reducible
   refine x_assign ?_ (by k_dflt exact rfl)
   refine e_here ‹_› ‹_› ‹_› ‹_› ‹_› ‹_› (by k_dflt decide) (by first | with_reducible assumption | k_dflt exact rfl) ‹_› (by tb_start) ?_ (by k_dflt exact rfl); intro _ _ _ _ _
   refine z_store ‹_› ‹_› ‹_› ‹_› ?_; intro _ _ _ _
   refine x_if ?_
   refine t_call ?_
   refine e_call1 ‹_› ‹_› ‹_› ‹_› ‹_› ‹_› (by tb_start) ?_
   refine u_is_name_start ‹_› ‹_› ‹_› ‹_› (by k_dflt decide) ?_; intro _ _ _ _
   refine Exists.intro _ (And.intro rfl ?_)
   refine dec_ff ‹_› ?_
   refine x_app ?_
   refine x_if ?_
   refine t_cmp2 ?_
   refine d_str ?_
   refine z_local ‹_› ‹_› ‹_› (by tb_start) ?_
   refine z_lec lit48 ?_
   refine Exists.intro _ (And.intro rfl ?_)
   refine dec_ff ‹_› ?_
   refine both_ff ?_
   refine x_app ?_
   refine x_if ?_
   refine t_cmpS ‹_› ‹_› ‹_› (by tb_start) ?_ (by with_unfolding_all rfl)
   refine z_eqc lit34 ?_
   refine Exists.intro _ (And.intro rfl ?_)
   refine dec_ff ‹_› ?_
   refine x_app ?_
   refine x_if ?_
   refine t_cmpS ‹_› ‹_› ‹_› (by tb_start) ?_ (by with_unfolding_all rfl)
   refine z_eqc lit39 ?_
   refine Exists.intro _ (And.intro rfl ?_)
   refine dec_tt (by k_dflt exact rfl) ?_
   refine x_app ?_
   refine z_expr ‹_› ?_ (by k_dflt exact rfl)
   refine e_call1 ‹_› ‹_› ‹_› ‹_› ‹_› ‹_› (by tb_start) ?_
   refine z_useL ‹_› ‹_› ‹_› (ct_read_char ‹_› ‹_› ‹_› ‹_› ‹_› ‹_› ‹_› ‹_› ‹_› ‹_› ‹_›) (by k_dflt decide) ?_; intro _ _ _ _ _ _ _
   refine x_app0 ?_
   refine x_app0 ?_
   refine x_app0 ?_
   refine x_app0 ?_
   refine x_nil ?_
   refine z_end ‹_› ‹_› ?_
  exact ⟨rfl, by assumption, by assumption⟩
theorem one_at (KF : Kf W A) (L : LexS A a cs i tk fl news) (hl : cs.length ≤ 100000) (hc : cs[i]? = some 64) {j : Nat} {tk' fl' : List Dat}
    (hct : Ct W A.lex_at [.ref a.lx] 5 news (fun r l => r = .none ∧ LexS A a cs j tk' fl' l ∧ Kp a.S news l)) :
    Ct W A.lex_one [.ref a.lx] 6 news (fun r l => r = .none ∧ LexS A a cs j tk' fl' l ∧ Kp a.S news l) := by
  have f1 : nsO (some 64) = false := by decide +kernel
  have f2 : geO 48 (some 64) = true := by decide
  have f3 : leO 57 (some 64) = false := by decide
  have f4 : decide (some 64 = some 34) = false := by decide
  have f5 : decide (some 64 = some 39) = false := by decide
  with_reducible refine enter KF.d_lex_one.fn (fun _ _ _ _ _ _ => by kernel_rfl) (locs (by kernel_rfl)) (by kernel_rfl) (by kernel_rfl) (by kernel_rfl) (of_decide_eq_true (by kernel_rfl)) ?_
  intro c base g m s h tk₀ S F N hm
  have hm_lx : m ("lx" : Str) = some _ := (hm _).trans rfl
  clear hm
  have kl_lx : Lc (dScope (defAt 23)) "lx" := ⟨by kernel_rfl, by kernel_rfl⟩
  have kl_c : Lc (dScope (defAt 23)) "c" := ⟨by kernel_rfl, by kernel_rfl⟩
  have kg_is_name_start : Gb (dScope (defAt 23)) "is_name_start" := ⟨by kernel_rfl, by kernel_rfl⟩
  have kk_is_name_start := KF.d_is_name_start.keep
  have gg_is_name_start := KF.g_is_name_start
  have kg_lex_name : Gb (dScope (defAt 23)) "lex_name" := ⟨by kernel_rfl, by kernel_rfl⟩
  have kk_lex_name := KF.d_lex_name.keep
  have gg_lex_name := KF.g_lex_name
  have kg_lex_int : Gb (dScope (defAt 23)) "lex_int" := ⟨by kernel_rfl, by kernel_rfl⟩
  have kk_lex_int := KF.d_lex_int.keep
  have gg_lex_int := KF.g_lex_int
  have kg_read_text : Gb (dScope (defAt 23)) "read_text" := ⟨by kernel_rfl, by kernel_rfl⟩
  have kk_read_text := KF.d_read_text.keep
  have gg_read_text := KF.g_read_text
  have kg_read_char : Gb (dScope (defAt 23)) "read_char" := ⟨by kernel_rfl, by kernel_rfl⟩
  have kk_read_char := KF.d_read_char.keep
  have gg_read_char := KF.g_read_char
  have kg_lex_at : Gb (dScope (defAt 23)) "lex_at" := ⟨by kernel_rfl, by kernel_rfl⟩
  have kk_lex_at := KF.d_lex_at.keep
  have gg_lex_at := KF.g_lex_at
  have kg_LeftOut : Gb (dScope (defAt 23)) "LeftOut" := ⟨by kernel_rfl, by kernel_rfl⟩
  have kg_digit_of : Gb (dScope (defAt 23)) "digit_of" := ⟨by kernel_rfl, by kernel_rfl⟩
  have kk_digit_of := KF.d_digit_of.keep
  have gg_digit_of := KF.g_digit_of
  have kg_read_sign : Gb (dScope (defAt 23)) "read_sign" := ⟨by kernel_rfl, by kernel_rfl⟩
  have kk_read_sign := KF.d_read_sign.keep
  have gg_read_sign := KF.g_read_sign
  have kk_here := KF.m_here.keep
  have kk_peek := KF.m_peek.keep
  show wpAny _ _ (execs (_ :: _) _) _ _ _
  with_reducible
   refine x_assign ?_ (by k_dflt exact rfl)
   refine e_here ‹_› ‹_› ‹_› ‹_› ‹_› ‹_› (by k_dflt decide) (by first | with_reducible assumption | k_dflt exact rfl) ‹_› (by tb_start) ?_ (by k_dflt exact rfl); intro _ _ _ _ _
   refine z_store ‹_› ‹_› ‹_› ‹_› ?_; intro _ _ _ _
   refine x_if ?_
   refine t_call ?_
   refine e_call1 ‹_› ‹_› ‹_› ‹_› ‹_› ‹_› (by tb_start) ?_
   refine u_is_name_start ‹_› ‹_› ‹_› ‹_› (by k_dflt decide) ?_; intro _ _ _ _
   refine Exists.intro _ (And.intro rfl ?_)
   refine dec_ff ‹_› ?_
   refine x_app ?_
   refine x_if ?_
   refine t_cmp2 ?_
   refine d_str ?_
   refine z_local ‹_› ‹_› ‹_› (by tb_start) ?_
   refine z_lec lit48 ?_
   refine Exists.intro _ (And.intro rfl ?_)
   refine dec_tt ‹_› ?_
   refine d_str ?_
   refine z_cle lit57 ?_
   refine Exists.intro _ (And.intro rfl ?_)
   refine dec_ff ‹_› ?_
   refine x_app ?_
   refine x_if ?_
   refine t_cmpS ‹_› ‹_› ‹_› (by tb_start) ?_ (by with_unfolding_all rfl)
   refine z_eqc lit34 ?_
   refine Exists.intro _ (And.intro rfl ?_)
   refine dec_ff ‹_› ?_
   refine x_app ?_
   refine x_if ?_
   refine t_cmpS ‹_› ‹_› ‹_› (by tb_start) ?_ (by with_unfolding_all rfl)
   refine z_eqc lit39 ?_
   refine Exists.intro _ (And.intro rfl ?_)
   refine dec_ff ‹_› ?_
   refine x_app ?_
   refine x_if ?_
   refine t_cmpS ‹_› ‹_› ‹_› (by tb_start) ?_ (by with_unfolding_all rfl)
   refine z_eqc lit64 ?_
   refine Exists.intro _ (And.intro rfl ?_)
   refine dec_tt (by k_dflt exact rfl) ?_
   refine x_app ?_
   refine z_expr ‹_› ?_ (by k_dflt exact rfl)
   refine e_call1 ‹_› ‹_› ‹_› ‹_› ‹_› ‹_› (by tb_start) ?_
   refine z_useL ‹_› ‹_› ‹_› ‹_› (by k_dflt decide) ?_; intro _ _ _ _ _ _ _
   refine x_app0 ?_
   refine x_app0 ?_
   refine x_app0 ?_
   refine x_app0 ?_
   refine x_app0 ?_
   refine x_nil ?_
   refine z_end ‹_› ‹_› ?_
  exact ⟨rfl, by assumption, by assumption⟩
theorem one_sign (KF : Kf W A) (L : LexS A a cs i tk fl news) (hl : cs.length ≤ 100000) {c₀ : Nat} (hc : cs[i]? = some c₀) {j : Nat} {tk' fl' : List Dat}
    (hct : Ct W A.read_sign [.ref a.lx] 3 news (fun r l => r = .none ∧ LexS A a cs j tk' fl' l ∧ Kp a.S news l))
    (f1 : nsO (some c₀) = false) (hd : isDig c₀ = false) (h1 : c₀ ≠ 34) (h2 : c₀ ≠ 39) (h3 : c₀ ≠ 64) (h4 : c₀ ≠ 46) (h5 : c₀ ≠ 35) (h6 : c₀ ≠ 36) :
    Ct W A.lex_one [.ref a.lx] 6 news (fun r l => r = .none ∧ LexS A a cs j tk' fl' l ∧ Kp a.S news l) := by
  have e1 := ne_some h1
  have e2 := ne_some h2
  have e3 := ne_some h3
  have e4 := ne_some h4
  have e5 := ne_some h5
  have e6 := ne_some h6
  by_cases hg : 48 ≤ c₀
  · have f2 : geO 48 (some c₀) = true := decide_eq_true hg
    have f3 : leO 57 (some c₀) = false := by
      simp only [isDig, decide_eq_true hg, Bool.true_and, decide_eq_false_iff_not] at hd
      exact decide_eq_false hd
    with_reducible refine enter KF.d_lex_one.fn (fun _ _ _ _ _ _ => by kernel_rfl) (locs (by kernel_rfl)) (by kernel_rfl) (by kernel_rfl) (by kernel_rfl) (of_decide_eq_true (by kernel_rfl)) ?_
    intro c base g m s h tk₀ S F N hm
    have hm_lx : m ("lx" : Str) = some _ := (hm _).trans rfl
    clear hm
    have kl_lx : Lc (dScope (defAt 23)) "lx" := ⟨by kernel_rfl, by kernel_rfl⟩
    have kl_c : Lc (dScope (defAt 23)) "c" := ⟨by kernel_rfl, by kernel_rfl⟩
    have kg_is_name_start : Gb (dScope (defAt 23)) "is_name_start" := ⟨by kernel_rfl, by kernel_rfl⟩
    have kk_is_name_start := KF.d_is_name_start.keep
    have gg_is_name_start := KF.g_is_name_start
    have kg_lex_name : Gb (dScope (defAt 23)) "lex_name" := ⟨by kernel_rfl, by kernel_rfl⟩
    have kk_lex_name := KF.d_lex_name.keep
    have gg_lex_name := KF.g_lex_name
    have kg_lex_int : Gb (dScope (defAt 23)) "lex_int" := ⟨by kernel_rfl, by kernel_rfl⟩
    have kk_lex_int := KF.d_lex_int.keep
    have gg_lex_int := KF.g_lex_int
    have kg_read_text : Gb (dScope (defAt 23)) "read_text" := ⟨by kernel_rfl, by kernel_rfl⟩
    have kk_read_text := KF.d_read_text.keep
    have gg_read_text := KF.g_read_text
    have kg_read_char : Gb (dScope (defAt 23)) "read_char" := ⟨by kernel_rfl, by kernel_rfl⟩
    have kk_read_char := KF.d_read_char.keep
    have gg_read_char := KF.g_read_char
    have kg_lex_at : Gb (dScope (defAt 23)) "lex_at" := ⟨by kernel_rfl, by kernel_rfl⟩
    have kk_lex_at := KF.d_lex_at.keep
    have gg_lex_at := KF.g_lex_at
    have kg_LeftOut : Gb (dScope (defAt 23)) "LeftOut" := ⟨by kernel_rfl, by kernel_rfl⟩
    have kg_digit_of : Gb (dScope (defAt 23)) "digit_of" := ⟨by kernel_rfl, by kernel_rfl⟩
    have kk_digit_of := KF.d_digit_of.keep
    have gg_digit_of := KF.g_digit_of
    have kg_read_sign : Gb (dScope (defAt 23)) "read_sign" := ⟨by kernel_rfl, by kernel_rfl⟩
    have kk_read_sign := KF.d_read_sign.keep
    have gg_read_sign := KF.g_read_sign
    have kk_here := KF.m_here.keep
    have kk_peek := KF.m_peek.keep
    show wpAny _ _ (execs (_ :: _) _) _ _ _
    with_reducible
     refine x_assign ?_ (by k_dflt exact rfl)
     refine e_here ‹_› ‹_› ‹_› ‹_› ‹_› ‹_› (by k_dflt decide) (by first | with_reducible assumption | k_dflt exact rfl) ‹_› (by tb_start) ?_ (by k_dflt exact rfl); intro _ _ _ _ _
     refine z_store ‹_› ‹_› ‹_› ‹_› ?_; intro _ _ _ _
     refine x_if ?_
     refine t_call ?_
     refine e_call1 ‹_› ‹_› ‹_› ‹_› ‹_› ‹_› (by tb_start) ?_
     refine u_is_name_start ‹_› ‹_› ‹_› ‹_› (by k_dflt decide) ?_; intro _ _ _ _
     refine Exists.intro _ (And.intro rfl ?_)
     refine dec_ff ‹_› ?_
     refine x_app ?_
     refine x_if ?_
     refine t_cmp2 ?_
     refine d_str ?_
     refine z_local ‹_› ‹_› ‹_› (by tb_start) ?_
     refine z_lec lit48 ?_
     refine Exists.intro _ (And.intro rfl ?_)
     refine dec_tt ‹_› ?_
     refine d_str ?_
     refine z_cle lit57 ?_
     refine Exists.intro _ (And.intro rfl ?_)
     refine dec_ff ‹_› ?_
     refine x_app ?_
     refine x_if ?_
     refine t_cmpS ‹_› ‹_› ‹_› (by tb_start) ?_ (by with_unfolding_all rfl)
     refine z_eqc lit34 ?_
     refine Exists.intro _ (And.intro rfl ?_)
     refine dec_ff ‹_› ?_
     refine x_app ?_
     refine x_if ?_
     refine t_cmpS ‹_› ‹_› ‹_› (by tb_start) ?_ (by with_unfolding_all rfl)
     refine z_eqc lit39 ?_
     refine Exists.intro _ (And.intro rfl ?_)
     refine dec_ff ‹_› ?_
     refine x_app ?_
     refine x_if ?_
     refine t_cmpS ‹_› ‹_› ‹_› (by tb_start) ?_ (by with_unfolding_all rfl)
     refine z_eqc lit64 ?_
     refine Exists.intro _ (And.intro rfl ?_)
     refine dec_ff ‹_› ?_
     refine x_app ?_
     refine x_if ?_
     refine t_and ?_
     refine t_cmpS ‹_› ‹_› ‹_› (by tb_start) ?_ (by with_unfolding_all rfl)
     refine z_eqc lit46 ?_
     refine Exists.intro _ (And.intro rfl ?_)
     refine dec_ff ‹_› ?_
     refine both_ff ?_
     refine x_app ?_
     refine x_if ?_
     refine t_cmpS ‹_› ‹_› ‹_› (by tb_start) ?_ (by with_unfolding_all rfl)
     refine z_eqc lit35 ?_
     refine Exists.intro _ (And.intro rfl ?_)
     refine dec_ff ‹_› ?_
     refine x_app ?_
     refine x_if ?_
     refine t_cmpS ‹_› ‹_› ‹_› (by tb_start) ?_ (by with_unfolding_all rfl)
     refine z_eqc lit36 ?_
     refine Exists.intro _ (And.intro rfl ?_)
     refine dec_ff ‹_› ?_
     refine x_app ?_
     refine z_expr ‹_› ?_ (by k_dflt exact rfl)
     refine e_call1 ‹_› ‹_› ‹_› ‹_› ‹_› ‹_› (by tb_start) ?_
     refine z_useL ‹_› ‹_› ‹_› ‹_› (by k_dflt decide) ?_; intro _ _ _ _ _ _ _
     refine x_app0 ?_
     refine x_app0 ?_
     refine x_app0 ?_
     refine x_app0 ?_
     refine x_app0 ?_
     refine x_app0 ?_
     refine x_app0 ?_
     refine x_app0 ?_
     refine x_nil ?_
     refine z_end ‹_› ‹_› ?_
    exact ⟨rfl, by assumption, by assumption⟩
  · have f2 : geO 48 (some c₀) = false := decide_eq_false hg
    with_reducible refine enter KF.d_lex_one.fn (fun _ _ _ _ _ _ => by kernel_rfl) (locs (by kernel_rfl)) (by kernel_rfl) (by kernel_rfl) (by kernel_rfl) (of_decide_eq_true (by kernel_rfl)) ?_
    intro c base g m s h tk₀ S F N hm
    have hm_lx : m ("lx" : Str) = some _ := (hm _).trans rfl
    clear hm
    have kl_lx : Lc (dScope (defAt 23)) "lx" := ⟨by kernel_rfl, by kernel_rfl⟩
    have kl_c : Lc (dScope (defAt 23)) "c" := ⟨by kernel_rfl, by kernel_rfl⟩
    have kg_is_name_start : Gb (dScope (defAt 23)) "is_name_start" := ⟨by kernel_rfl, by kernel_rfl⟩
    have kk_is_name_start := KF.d_is_name_start.keep
    have gg_is_name_start := KF.g_is_name_start
    have kg_lex_name : Gb (dScope (defAt 23)) "lex_name" := ⟨by kernel_rfl, by kernel_rfl⟩
    have kk_lex_name := KF.d_lex_name.keep
    have gg_lex_name := KF.g_lex_name
    have kg_lex_int : Gb (dScope (defAt 23)) "lex_int" := ⟨by kernel_rfl, by kernel_rfl⟩
    have kk_lex_int := KF.d_lex_int.keep
    have gg_lex_int := KF.g_lex_int
    have kg_read_text : Gb (dScope (defAt 23)) "read_text" := ⟨by kernel_rfl, by kernel_rfl⟩
    have kk_read_text := KF.d_read_text.keep
    have gg_read_text := KF.g_read_text
    have kg_read_char : Gb (dScope (defAt 23)) "read_char" := ⟨by kernel_rfl, by kernel_rfl⟩
    have kk_read_char := KF.d_read_char.keep
    have gg_read_char := KF.g_read_char
    have kg_lex_at : Gb (dScope (defAt 23)) "lex_at" := ⟨by kernel_rfl, by kernel_rfl⟩
    have kk_lex_at := KF.d_lex_at.keep
    have gg_lex_at := KF.g_lex_at
    have kg_LeftOut : Gb (dScope (defAt 23)) "LeftOut" := ⟨by kernel_rfl, by kernel_rfl⟩
    have kg_digit_of : Gb (dScope (defAt 23)) "digit_of" := ⟨by kernel_rfl, by kernel_rfl⟩
    have kk_digit_of := KF.d_digit_of.keep
    have gg_digit_of := KF.g_digit_of
    have kg_read_sign : Gb (dScope (defAt 23)) "read_sign" := ⟨by kernel_rfl, by kernel_rfl⟩
    have kk_read_sign := KF.d_read_sign.keep
    have gg_read_sign := KF.g_read_sign
    have kk_here := KF.m_here.keep
    have kk_peek := KF.m_peek.keep
    show wpAny _ _ (execs (_ :: _) _) _ _ _
    with_reducible
     refine x_assign ?_ (by k_dflt exact rfl)
     refine e_here ‹_› ‹_› ‹_› ‹_› ‹_› ‹_› (by k_dflt decide) (by first | with_reducible assumption | k_dflt exact rfl) ‹_› (by tb_start) ?_ (by k_dflt exact rfl); intro _ _ _ _ _
     refine z_store ‹_› ‹_› ‹_› ‹_› ?_; intro _ _ _ _
     refine x_if ?_
     refine t_call ?_
     refine e_call1 ‹_› ‹_› ‹_› ‹_› ‹_› ‹_› (by tb_start) ?_
     refine u_is_name_start ‹_› ‹_› ‹_› ‹_› (by k_dflt decide) ?_; intro _ _ _ _
     refine Exists.intro _ (And.intro rfl ?_)
     refine dec_ff ‹_› ?_
     refine x_app ?_
     refine x_if ?_
     refine t_cmp2 ?_
     refine d_str ?_
     refine z_local ‹_› ‹_› ‹_› (by tb_start) ?_
     refine z_lec lit48 ?_
     refine Exists.intro _ (And.intro rfl ?_)
     refine dec_ff ‹_› ?_
     refine both_ff ?_
     refine x_app ?_
     refine x_if ?_
     refine t_cmpS ‹_› ‹_› ‹_› (by tb_start) ?_ (by with_unfolding_all rfl)
     refine z_eqc lit34 ?_
     refine Exists.intro _ (And.intro rfl ?_)
     refine dec_ff ‹_› ?_
     refine x_app ?_
     refine x_if ?_
     refine t_cmpS ‹_› ‹_› ‹_› (by tb_start) ?_ (by with_unfolding_all rfl)
     refine z_eqc lit39 ?_
     refine Exists.intro _ (And.intro rfl ?_)
     refine dec_ff ‹_› ?_
     refine x_app ?_
     refine x_if ?_
     refine t_cmpS ‹_› ‹_› ‹_› (by tb_start) ?_ (by with_unfolding_all rfl)
     refine z_eqc lit64 ?_
     refine Exists.intro _ (And.intro rfl ?_)
     refine dec_ff ‹_› ?_
     refine x_app ?_
     refine x_if ?_
     refine t_and ?_
     refine t_cmpS ‹_› ‹_› ‹_› (by tb_start) ?_ (by with_unfolding_all rfl)
     refine z_eqc lit46 ?_
     refine Exists.intro _ (And.intro rfl ?_)
     refine dec_ff ‹_› ?_
     refine both_ff ?_
     refine x_app ?_
     refine x_if ?_
     refine t_cmpS ‹_› ‹_› ‹_› (by tb_start) ?_ (by with_unfolding_all rfl)
     refine z_eqc lit35 ?_
     refine Exists.intro _ (And.intro rfl ?_)
     refine dec_ff ‹_› ?_
     refine x_app ?_
     refine x_if ?_
     refine t_cmpS ‹_› ‹_› ‹_› (by tb_start) ?_ (by with_unfolding_all rfl)
     refine z_eqc lit36 ?_
     refine Exists.intro _ (And.intro rfl ?_)
     refine dec_ff ‹_› ?_
     refine x_app ?_
     refine z_expr ‹_› ?_ (by k_dflt exact rfl)
     refine e_call1 ‹_› ‹_› ‹_› ‹_› ‹_› ‹_› (by tb_start) ?_
     refine z_useL ‹_› ‹_› ‹_› ‹_› (by k_dflt decide) ?_; intro _ _ _ _ _ _ _
     refine x_app0 ?_
     refine x_app0 ?_
     refine x_app0 ?_
     refine x_app0 ?_
     refine x_app0 ?_
     refine x_app0 ?_
     refine x_app0 ?_
     refine x_app0 ?_
     refine x_nil ?_
     refine z_end ‹_› ‹_› ?_
    exact ⟨rfl, by assumption, by assumption⟩
end
end Mine
end
section
open PySem PySem.W PySem.Calls PySem.Spec PyProof.Rows
set_option Elab.async false
set_option maxRecDepth 100000
set_option maxHeartbeats 2000000
namespace Mine
theorem drop_more {cs a r : Cs} {i : Nat} (h : cs.drop i = a ++ r) : cs.drop (i + a.length) = r := by
  rw [← List.drop_drop, h, List.drop_left]
theorem drop_get {cs : Cs} {i k c : Nat} {a r : Cs} (h : cs.drop i = a ++ r) (hk : k < a.length) (e : a[k] = c) : cs[i + k]? = some c := by
  rw [drop_at h k, List.getElem?_append_left hk, List.getElem?_eq_getElem hk, e]
theorem drop_next {cs a r : Cs} {i : Nat} (h : cs.drop i = a ++ r) : cs[i + a.length]? = r[0]? := by
  rw [drop_at h, List.getElem?_append_right (Nat.le_refl _), Nat.sub_self]
theorem drop_in {cs a r : Cs} {i k : Nat} (h : cs.drop i = a ++ r) (h1 : i ≤ k) (h2 : k < i + a.length) : ∃ c, cs[k]? = some c ∧ c ∈ a :=
  ⟨a[k - i]'(by lia), by have := drop_get h (k := k - i) (by lia) rfl; rwa [show i + (k - i) = k by lia] at this, List.getElem_mem _⟩
theorem drop_take {cs a r : Cs} {i k : Nat} (h : cs.drop i = a ++ r) (h2 : k ≤ i + a.length) : cut cs i k = a.take (k - i) := by
  unfold cut
  rw [h, List.take_append_of_le_length (by lia)]
theorem start_ne {c k : Nat} (h : nameStart c = true) (hk : nameStart k = false) : c ≠ k := fun e => by rw [e, hk] at h; cases h
theorem sign_facts {c : Nat} (h : c ∈ oneSigns) : nameStart c = false ∧ isDig c = false ∧ c ≠ 34 ∧ c ≠ 39 ∧ c ≠ 64 ∧ c ≠ 46 ∧ c ≠ 35 ∧ c ≠ 36 ∧ isBlank c = false ∧ c ≠ 47 := by
  have : oneSigns.all (fun c => decide (nameStart c = false ∧ isDig c = false ∧ c ≠ 34 ∧ c ≠ 39 ∧ c ≠ 64 ∧ c ≠ 46 ∧ c ≠ 35 ∧ c ≠ 36 ∧ isBlank c = false ∧ c ≠ 47)) = true := by decide +kernel
  exact of_decide_eq_true (List.all_eq_true.mp this c h)
theorem strange_facts {c : Nat} (h : strange c = true) : nameStart c = false ∧ isDig c = false ∧ c ≠ 34 ∧ c ≠ 39 ∧ c ≠ 64 ∧ c ≠ 46 ∧ c ≠ 35 ∧ c ≠ 36 ∧ isBlank c = false ∧ c ≠ 47 := by
  simp only [strange, Bool.and_eq_true, decide_eq_true_eq, Bool.not_eq_true'] at h
  obtain ⟨⟨h1, h2⟩, h3⟩ := h
  refine ⟨h2, ?_, by lia, by lia, by lia, by lia, by lia, by lia, h3, by lia⟩
  simp only [isDig, Bool.and_eq_false_iff, decide_eq_false_iff_not]; lia
theorem start_facts {c : Nat} (h : nameStart c = true) : isBlank c = false ∧ c ≠ 47 ∧ c ≠ 34 := by
  refine ⟨Bool.eq_false_iff.mpr fun hb => ?_, start_ne h (by decide +kernel), start_ne h (by decide +kernel)⟩
  have : blanks.all (fun c => !nameStart c) = true := by decide +kernel
  have := List.all_eq_true.mp this c (List.contains_iff_mem.mp hb)
  rw [h] at this; cases this
section
variable {W : Wd} {A : Ad} {la : La} {news : Led} {cs : Cs} {i : Nat} {tk fl : List Dat}
theorem ct_conv {f : Addr} {vs : List Value} {n i1 i2 : Nat} {t1 t2 f1 f2 : List Dat} (h : Ct W f vs n news (fun r l => r = .none ∧ LexS A la cs i1 t1 f1 l ∧ Kp la.S news l)) (e1 : i1 = i2) (e2 : t1 = t2) (e3 : f1 = f2) :
    Ct W f vs n news (fun r l => r = .none ∧ LexS A la cs i2 t2 f2 l ∧ Kp la.S news l) := by subst e1 e2 e3; exact h
theorem one_ct (KF : Kf W A) (L : LexS A la cs i tk fl news) (hl : cs.length ≤ 100000) (hz : tk.length ≤ 100000) (hz' : fl.length ≤ 100000) (hall : ∀ c ∈ cs, c < 1114112) {a rest : Cs} {t f : List Dat} (h : cs.drop i = a ++ rest) (hi : i ≤ cs.length) (O : One i a rest t f) :
    Ct W A.lex_one [.ref la.lx] 6 news (fun r l => r = .none ∧ LexS A la cs (i + a.length) (tk ++ t) (fl ++ f) l ∧ Kp la.S news l) := by
  have hmem : ∀ {k c : Nat}, cs[k]? = some c → c < 1114112 := fun e => hall _ (List.mem_of_getElem? e)
  cases O with
  | name _ _ hn hr =>
    obtain ⟨c, r, e, hc⟩ := hn.start
    have h0 : cs[i]? = some c := by rw [e] at h; exact drop_get h (k := 0) (by simp) rfl
    have hcut := drop_cut h rfl
    refine ct_conv (one_name KF L hl hz h0 (nameTo_of h hi hn hr) hc) rfl ?_ (List.append_nil _).symm
    rw [hcut]
  | num _ v _ hd hr =>
    have hn : cs[i + a.length]? = rest[0]? := drop_next h
    have H : NumEnd rest[0]? := by
      cases rest with
      | nil => exact numEnd_none
      | cons d r => exact numEnd_of hr
    have hlen : a.length ≤ 2 ∧ 1 ≤ a.length ∧ (∀ c ∈ a, isDig c = true) ∧ (decV a : Int) = v ∧ (∀ m, m ≤ a.length → decV (a.take m) < 2 ^ 60) ∧ ∃ e r, a = e :: r ∧ (e = 48 → r = []) := by
      simp only [nums3, List.mem_cons, Prod.mk.injEq, List.not_mem_nil, or_false] at hd
      rcases hd with ⟨rfl, rfl⟩ | ⟨rfl, rfl⟩ | ⟨rfl, rfl⟩
      · exact ⟨by decide, by decide, by decide, by decide, by decide, _, _, rfl, by decide⟩
      · exact ⟨by decide, by decide, by decide, by decide, by decide, _, _, rfl, by decide⟩
      · exact ⟨by decide, by decide, by decide, by decide, by decide, _, _, rfl, by decide⟩
    obtain ⟨l1, l2, l3, l4, l5, e, r, e1, e2⟩ := hlen
    have h0 : cs[i]? = some e := by rw [e1] at h; exact drop_get h (k := 0) (by simp) rfl
    have he : isDig e = true := l3 e (by rw [e1]; exact .head _)
    have he' : 48 ≤ e ∧ e ≤ 57 := by simpa only [isDig, Bool.and_eq_true, decide_eq_true_eq] using he
    have hns : nsO (some e) = false := by
      have : ∀ e, 48 ≤ e ∧ e ≤ 57 → nameStart e = false := by
        intro e h
        have : e < 58 := by lia
        have : (List.range 58).all (fun e => !decide (48 ≤ e) || !nameStart e) = true := by decide +kernel
        have := List.all_eq_true.mp this e (List.mem_range.mpr (by lia))
        rw [decide_eq_true h.1] at this
        simpa using this
      exact this e he'
    refine ct_conv (one_num KF L hl hz (j := i + a.length) (by lia) (fun k h1 h2 => ?_) (fun k h1 h2 => ?_) hn H h0 (fun q => ?_) hns (decide_eq_true he'.1) (decide_eq_true he'.2)) rfl ?_ (List.append_nil _).symm
    · obtain ⟨c, q1, q2⟩ := drop_in h h1 h2
      exact ⟨c, q1, l3 c q2⟩
    · rw [drop_take h h2]; exact l5 _ (by lia)
    · rw [e1, e2 q]; rfl
    · rw [drop_cut h rfl, l4]
  | text s _ hs =>
    have h0 : cs[i]? = some 34 := drop_get h (k := 0) (by simp) rfl
    have h1 : cs.drop (i + 1) = s ++ ([34] ++ rest) := by
      have := drop_more (a := [34]) (r := (s ++ [34]) ++ rest) (by rw [h]; rfl)
      rw [← List.append_assoc]; exact this
    have h2 : cs[i + 1 + s.length]? = some 34 := (drop_next h1).trans rfl
    refine ct_conv (one_text KF L hl hz h0 (j := i + 1 + s.length) (by lia) (fun k q1 q2 => ?_) h2) (by simp only [List.length_append, List.length_cons, List.length_nil]; lia) ?_ (List.append_nil _).symm
    · obtain ⟨c, q3, q4⟩ := drop_in h1 q1 q2
      exact ⟨c, q3, (hs c q4).1, (hs c q4).2.1, (hs c q4).2.2, hmem q3⟩
    · rw [drop_cut h1 rfl]
  | verb s _ hs hr =>
    have h0 : cs[i]? = some 64 := drop_get h (k := 0) (by simp) rfl
    have h01 : cs[i + 1]? = some 34 := drop_get h (k := 1) (by simp) rfl
    have h1 : cs.drop (i + 2) = s ++ ([34, 34, 10, 34] ++ rest) := by
      have := drop_more (a := [64, 34]) (r := (s ++ [34, 34, 10, 34]) ++ rest) (by rw [h]; rfl)
      rw [← List.append_assoc]; exact this
    have h2 := drop_more h1
    have g : ∀ k c, k < 4 → ([34, 34, 10, 34] : Cs)[k]? = some c → cs[i + 2 + s.length + k]? = some c := fun k c hk e => by
      rw [drop_at h2 k, List.getElem?_append_left (by simpa using hk), e]
    have h5 : decide (cs[i + 2 + s.length + 4]? = some 34) = false := by
      rw [drop_at h2 4, List.getElem?_append_right (by simp)]
      cases rest with
      | nil => rfl
      | cons d r =>
        have hr' : (!decide (d = 34)) = true := hr
        have hd : d ≠ 34 := by simpa using hr'
        exact ne_some hd
    refine ct_conv (one_at KF L hl h0 (ct_lex_at_verb KF L hl hz (j := i + 2 + s.length) (by lia) (fun k q1 q2 => ?_) hall (g 0 34 (by decide) rfl) (g 1 34 (by decide) rfl) (g 2 10 (by decide) rfl) (g 3 34 (by decide) rfl) h5 (by rw [h01]; rfl))) (by simp only [List.length_append, List.length_cons, List.length_nil]; lia) ?_ (List.append_nil _).symm
    · obtain ⟨c, q3, q4⟩ := drop_in h1 q1 q2
      rw [q3]
      exact fun e => hs c q4 (Option.some.inj e)
    · rw [drop_cut h1 rfl]
  | chr c _ h1 h2 h3 =>
    have g0 : cs[i]? = some 39 := drop_get h (k := 0) (by simp) rfl
    have g1 : cs[i + 1]? = some c := drop_get h (k := 1) (by simp) rfl
    have g2 : cs[i + 1 + 1]? = some 39 := drop_get h (k := 2) (by simp) rfl
    exact one_chr KF L hl hz hz' g0 (hmem g1) h1 h2 h3 g1 g2
  | sign c _ hs =>
    obtain ⟨s1, s2, s3, s4, s5, s6, s7, s8, _⟩ := sign_facts hs
    have g0 : cs[i]? = some c := drop_get h (k := 0) (by simp) rfl
    exact ct_conv (one_sign KF L hl g0 (ct_read_sign KF L hl hz g0 hs) s1 s2 s3 s4 s5 s6 s7 s8) rfl rfl (List.append_nil _).symm
  | strange c _ hs =>
    obtain ⟨s1, s2, s3, s4, s5, s6, s7, s8, _⟩ := strange_facts hs
    have g0 : cs[i]? = some c := drop_get h (k := 0) (by simp) rfl
    exact ct_conv (one_sign KF L hl g0 (ct_read_sign_strange KF L hl hz' g0 hs) s1 s2 s3 s4 s5 s6 s7 s8) rfl (List.append_nil _).symm rfl
  | atname n _ hn hr =>
    have g0 : cs[i]? = some 64 := drop_get h (k := 0) (by simp) rfl
    have h1 : cs.drop (i + 1) = n ++ rest := drop_more (a := [64]) (r := n ++ rest) (by rw [h]; rfl)
    obtain ⟨c, r, e, hc⟩ := hn.start
    have g1 : cs[i + 1]? = some c := by rw [e] at h1; exact drop_get h1 (k := 0) (by simp) rfl
    have hil : i < cs.length := (List.getElem?_eq_some_iff.mp g0).1
    have hnl : 0 < n.length := by rw [e]; simp
    refine ct_conv (one_at KF L hl g0 (ct_lex_at_name KF L hl hz (j := i + 1 + n.length) (by lia) (nameTo_of h1 hil hn hr) (by rw [g1]; exact ne_some (start_facts hc).2.2))) (by simp only [List.length_cons]; lia) ?_ (List.append_nil _).symm
    rw [drop_cut h1 rfl]
  | atbad _ hr =>
    have g0 : cs[i]? = some 64 := drop_get h (k := 0) (by simp) rfl
    have hil : i < cs.length := (List.getElem?_eq_some_iff.mp g0).1
    have g1 : cs[i + 1]? = rest[0]? := drop_next h
    have hh : nsO cs[i + 1]? = false ∧ decide (cs[i + 1]? = some 34) = false := by
      rw [g1]
      cases rest with
      | nil => exact ⟨rfl, rfl⟩
      | cons d r =>
        have hr' : (!nameStart d && !decide (d = 34)) = true := hr
        simp only [Bool.and_eq_true, Bool.not_eq_true', decide_eq_false_iff_not] at hr'
        exact ⟨hr'.1, ne_some hr'.2⟩
    exact ct_conv (one_at KF L hl g0 (ct_lex_at_bad KF L hl hz' ⟨Nat.le_refl _, hil, fun q => absurd q (Nat.lt_irrefl _), fun _ => hh.1, fun k q1 q2 => absurd q1 (by lia), fun q => absurd q (Nat.lt_irrefl _)⟩ hh.2)) rfl (List.append_nil _).symm rfl
theorem one_start {pos : Nat} {a rest : Cs} {t f : List Dat} (O : One pos a rest t f) : ∃ c r, a = c :: r ∧ isBlank c = false ∧ c ≠ 47 := by
  cases O with
  | name _ _ hn hr => obtain ⟨c, r, e, hc⟩ := hn.start; exact ⟨c, r, e, (start_facts hc).1, (start_facts hc).2.1⟩
  | num _ v _ hd hr =>
    simp only [nums3, List.mem_cons, Prod.mk.injEq, List.not_mem_nil, or_false] at hd
    rcases hd with ⟨rfl, rfl⟩ | ⟨rfl, rfl⟩ | ⟨rfl, rfl⟩ <;> exact ⟨_, _, rfl, by decide, by decide⟩
  | text s _ hs => exact ⟨_, _, rfl, by decide, by decide⟩
  | verb s _ hs hr => exact ⟨_, _, rfl, by decide, by decide⟩
  | chr c _ h1 h2 h3 => exact ⟨_, _, rfl, by decide, by decide⟩
  | sign c _ hs => exact ⟨_, _, rfl, (sign_facts hs).2.2.2.2.2.2.2.2.1, (sign_facts hs).2.2.2.2.2.2.2.2.2⟩
  | strange c _ hs => exact ⟨_, _, rfl, (strange_facts hs).2.2.2.2.2.2.2.2.1, (strange_facts hs).2.2.2.2.2.2.2.2.2⟩
  | atname n _ hn hr => exact ⟨_, _, rfl, by decide, by decide⟩
  | atbad _ hr => exact ⟨_, _, rfl, by decide, by decide⟩
theorem line_blank {e : Nat} (h : lineEnd e = true) : isBlank e = true := by
  have : ([10, 13, 133, 8232, 8233] : Cs).all isBlank = true := by decide +kernel
  exact List.all_eq_true.mp this e (List.contains_iff_mem.mp h)
inductive At (cs : Cs) : Nat → List Dat → List Dat → Prop
  | fin (i : Nat) : i = cs.length → At cs i [] []
  | tok {i : Nat} {a rest : Cs} {t f tk fl : List Dat} : i < cs.length → cs.drop i = a ++ rest → One i a rest t f → Lexes (i + a.length) rest tk fl → At cs i (t ++ tk) (f ++ fl)
theorem at_of {pos : Nat} {l : Cs} {tk fl : List Dat} (h : Lexes pos l tk fl) : cs.drop pos = l → pos ≤ cs.length → ∃ j n, SkipTo cs pos j n ∧ pos ≤ j ∧ j ≤ cs.length ∧ At cs j tk fl := by
  induction h with
  | fin pos =>
    intro h hp
    have hlen : pos = cs.length := by
      have := congrArg List.length h
      rw [List.length_drop] at this
      simp only [List.length_nil] at this
      lia
    exact ⟨pos, 0, .done pos (fun c e => by rw [hlen, List.getElem?_eq_none (Nat.le_refl _)] at e; cases e), Nat.le_refl _, hp, .fin _ hlen⟩
  | @skip pos b rest tk fl hs _ ih =>
    intro h hp
    obtain ⟨j, n, h1, h2, h3, h4⟩ := ih (drop_more h) (drop_len h hp)
    cases hs with
    | blank c hc => exact ⟨j, n + 1, .blank (drop_get h (k := 0) (by simp) rfl) hc h1, by lia, h3, h4⟩
    | line s e h5 h6 =>
      have g : cs.drop (pos + 2) = s ++ ([e] ++ rest) := by
        have := drop_more (a := [47, 47]) (r := (s ++ [e]) ++ rest) (by rw [h]; rfl)
        rw [← List.append_assoc]; exact this
      have g0 : cs[pos]? = some 47 := drop_get h (k := 0) (by simp) rfl
      have g00 : cs[pos + 1]? = some 47 := drop_get h (k := 1) (by simp) rfl
      have g1 : cs[pos + 2 + s.length]? = some e := (drop_next g).trans rfl
      have he : isBlank e = true := line_blank h6
      have hl : (47 :: 47 :: (s ++ [e])).length = s.length + 3 := by simp
      rw [hl, show pos + (s.length + 3) = pos + 2 + s.length + 1 by lia] at h1
      refine ⟨j, n + 2, .line (k := pos + 2 + s.length) g0 g00 (by lia) (fun x q1 q2 => ?_) ⟨e, g1, h6⟩ (.blank g1 he h1), by lia, h3, h4⟩
      by_cases x0 : x = pos
      · exact ⟨47, by rw [x0]; exact g0, by decide⟩
      by_cases x1 : x = pos + 1
      · exact ⟨47, by rw [x1]; exact g00, by decide⟩
      obtain ⟨c, q3, q4⟩ := drop_in g (k := x) (by lia) q2
      exact ⟨c, q3, h5 c q4⟩
    | block s h5 =>
      have g : cs.drop (pos + 2) = s ++ ([42, 47] ++ rest) := by
        have := drop_more (a := [47, 42]) (r := (s ++ [42, 47]) ++ rest) (by rw [h]; rfl)
        rw [← List.append_assoc]; exact this
      have g2 := drop_more g
      have hl : (47 :: 42 :: (s ++ [42, 47])).length = s.length + 4 := by simp
      rw [hl, show pos + (s.length + 4) = pos + 2 + s.length + 2 by lia] at h1
      refine ⟨j, n + 1, .block (k := pos + 2 + s.length) (drop_get h (k := 0) (by simp) rfl) (drop_get h (k := 1) (by simp) rfl) (by lia) (fun x q1 q2 => ?_) (drop_get g2 (k := 0) (by simp) rfl) (drop_get g2 (k := 1) (by simp) rfl) h1, by lia, h3, h4⟩
      obtain ⟨c, q3, q4⟩ := drop_in g q1 q2
      rw [q3]
      exact fun e => h5 c q4 (Option.some.inj e)
  | @one pos a rest t f tk fl ho hl _ =>
    intro h hp
    obtain ⟨c, r, e, h1, h2⟩ := one_start ho
    have hc : cs[pos]? = some c := by rw [e] at h; exact drop_get h (k := 0) (by simp) rfl
    exact ⟨pos, 0, .done pos (fun d e => by rw [hc] at e; cases e; exact ⟨h1, h2⟩), Nat.le_refl _, hp, .tok (List.getElem?_eq_some_iff.mp hc).1 h ho hl⟩
end
end Mine
end
section
open PySem PySem.W PySem.Calls PySem.Spec PyProof.Rows
set_option Elab.async false
set_option maxRecDepth 100000
set_option maxHeartbeats 2000000
namespace Mine
def CtC (W : Wd) (f : Addr) (vs : List Value) (n : Nat) (news : Led) (P : Value → Led → Prop) : Prop :=
  ∀ (c : Cx) (base g : Heap) (m : Str → Option Value) (s : Shared) (h : Heap) (tk : Nat) (R : Result → Shared → Prop),
    Gd W base c.outer g → Fr g c.L h m → News g c.L h news → c.cs.kind = .function → Room c n →
    (∀ r news' h' tk', Fr g c.L h' m → News g c.L h' news' → P r news' → R (.ok (.ret r)) (st s h' tk')) →
    codeAny W.M c.A (.call (.ref f) ⟨vs, []⟩) R (st s h tk)
theorem enterC {W : Wd} {f : Addr} {qual : Str} {params : Arguments} {body : List Stmt} {scope : Scope} {vs : List Value} {n : Nat} {news : Led} {P : Value → Led → Prop}
    (hf : FnF W.K f qual params body scope)
    (hbind : ∀ name doc pm an cdv ct, bindArgs (fnOf name qual params body scope .none .none doc pm an cdv ct) ⟨vs, []⟩ = pure ((params.args.map (·.arg)).zip vs))
    (hloc : ∀ y ∈ (params.args.map (·.arg)).zip vs, scope.names.lookup y.1 = some .local) (hco : scope.isCoroutine = false) (hgen : scope.isGenerator = false) (hk : scope.kind = .function)
    (hcell : ∀ x ∈ scope.names, x.2 ≠ .cell)
    (hb : ∀ (c : Cx) (base g : Heap) (m : Str → Option Value) (s : Shared) (h : Heap) (tk : Nat), Wk W base c g scope n → Fr g c.L h m → News g c.L h news →
      (∀ x, m x = ((params.args.map (·.arg)).zip vs).reverse.lookup x) →
      wpAny W.M c.A (execs body c.env) (Done c g s P) (fun _ _ => False) (st s h tk)) : CtC W f vs (n + 1) news P := by
  intro c base g m s h tk R G F N hck room ret
  obtain ⟨name, oc, od, doc, pm, an, cdv, ct, osl, ho, hcd⟩ := hf
  obtain ⟨A₀, B⟩ := G.B
  refine code_def (K := W.K) (A₀ := A₀) (base := base) (outer := c.outer) (env := c.env) B F G.X N G.T rfl rfl hck ho hcd (by have := room.dp; show c.dp < 1000; lia) (.of_eq (hbind _ _ _ _ _ _)) hloc (fun g' L' h₁ FG F' N' B' X' T' => ?_) hco hgen hk hcell
  have room' : Room ⟨c.dp + 1, c.un + 3, c.gd, qual, scope, L', f, cdv, c.env :: c.outer, []⟩ n := by
    have r1 := room.dp; have r2 := room.un
    constructor <;> dsimp only <;> lia
  refine wpAny_mono (hb ⟨c.dp + 1, c.un + 3, c.gd, qual, scope, L', f, cdv, c.env :: c.outer, []⟩ base g' _ s h₁ _ ⟨⟨⟨_, B'⟩, X', T'⟩, rfl, hk, room'⟩ F' N' (fun x => rfl)) (fun fl s' hd => ?_) fun _ _ hh => hh.elim
  obtain ⟨h', tk', m', news', rfl, F2, N2, hp⟩ := hd
  exact leaveK_ F2 N2 fun F3 N3 => ret _ _ _ _ F3 N3 hp
section
variable {W : Wd} {base g h : Heap} {c : Cx} {sc : Scope} {n : Nat} {m : Str → Option Value} {news : Led} {s : Shared} {tk' : Nat} {E Q : Value → Shared → Prop}
theorem z_new {C fI : Addr} {vs : List Value} {k : Nat} {P : Addr → Addr → Led → Prop} (S : Wk W base c g sc n) (F : Fr g c.L h m) (N : News g c.L h news) (hm : makesIn W.K C = true) (hi : MetF W.K C "__init__" fI)
    (hc : ∀ x dx, (∀ p ∈ news, p.1 < dx) → dx < x → CtC W fI (.ref x :: vs) k ((x, instObj C dx) :: (dx, dictOf [] 0) :: news) (fun r l => r = .none ∧ P x dx l)) (hk : k + 1 ≤ n)
    (hq : ∀ x dx h' tk' l, Fr g c.L h' m → News g c.L h' l → (∀ p ∈ news, p.1 < dx) → dx < x → P x dx l → Q (.ref x) (st s h' tk')) : wpAny W.M c.A (call (.ref C) vs) Q E (st s h tk') := by
  refine call_cls F S.G.X N hm hi.find hi.fn fun x dx h₁ F₁ N₁ hn hx => ?_
  have room : Room ⟨c.dp + 1, c.un + 1, c.gd, c.cn, c.cs, c.L, c.a, c.ccd, c.outer, c.cl⟩ k := by
    have r1 := S.room.dp; have r2 := S.room.un
    constructor <;> dsimp only <;> lia
  refine hc x dx hn hx ⟨c.dp + 1, c.un + 1, c.gd, c.cn, c.cs, c.L, c.a, c.ccd, c.outer, c.cl⟩ base g m s h₁ tk' _ S.G F₁ N₁ (by show c.cs.kind = _; rw [S.cs]; exact S.kind) room fun r l h₂ tk₂ F₂ N₂ hp => ?_
  exact ⟨hp.1, hq x dx h₂ tk₂ l F₂ N₂ hn hx hp.2⟩
end
section
variable {W : Wd} {A : Ad} {news : Led} {cs : Cs}
theorem setA_mem {d : Addr} {o : Obj} {news : Led} {p : Addr × Obj} (h : p ∈ setA d o news) : p = (d, o) ∨ p ∈ news := by
  rcases List.mem_cons.mp h with h | h
  · exact .inl h
  · exact .inr (List.mem_filter.mp h).1
theorem getL_nil {x : Str} : (getL x []).isSome = true := rfl
theorem len_put1 {x : Str} {hsh : Int} {k v : Value} : (putL x hsh k v []).length ≤ 100 := Nat.le_trans putL_length (Nat.le_of_ble_eq_true rfl)
theorem ct_linit (KF : Kf W A) {x dx D dd R : Addr} {t : Tok} (hne : dx < x) (hn : ∀ p ∈ news, p.1 < dx) :
    CtC W A.linit [.ref x, .str (strS cs) t, .ref D] 1 ((x, instObj A.cLex dx) :: (dx, dictOf [] 0) :: news) (fun r l => r = .none ∧ ∃ T es k n, (x, instObj A.cLex dx) ∈ l ∧ (dx, dictOf es k) ∈ l ∧ LexD ⟨x, dx, D, dd, T, R⟩ cs 0 es ∧
      (T, listOf ([] : List Value).toArray n) ∈ l ∧ (∀ p ∈ news, p.1 ≠ T) ∧ T ≠ x ∧ T ≠ dx ∧ (∀ p ∈ news, p ∈ l)) := by
  have hxd : x ≠ dx := Nat.ne_of_gt hne
  with_reducible refine enterC KF.d_linit.fn (fun _ _ _ _ _ _ => by kernel_rfl) (locs (by kernel_rfl)) (by kernel_rfl) (by kernel_rfl) (by kernel_rfl) (of_decide_eq_true (by kernel_rfl)) ?_
  intro c base g m s h tk₀ S F N hm
  have hm_self : m ("self" : Str) = some _ := (hm _).trans rfl
  have hm_text : m ("text" : Str) = some _ := (hm _).trans rfl
  have hm_diags : m ("diags" : Str) = some _ := (hm _).trans rfl
  clear hm
  have kl_self : Lc (dScope (metAt 21 0)) "self" := ⟨by kernel_rfl, by kernel_rfl⟩
  have kl_text : Lc (dScope (metAt 21 0)) "text" := ⟨by kernel_rfl, by kernel_rfl⟩
  have kl_diags : Lc (dScope (metAt 21 0)) "diags" := ⟨by kernel_rfl, by kernel_rfl⟩
  show wpAny _ _ (execs (_ :: _) _) _ _ _
  with_reducible
   refine x_assignA ?_ (by k_dflt exact rfl)
   refine z_local ‹_› ‹_› ‹_› (by tb_start) ?_
   refine z_local ‹_› ‹_› ‹_› (by tb_start) ?_
  with_reducible refine z_set S F N KF.kLex List.mem_cons_self (List.mem_cons_of_mem _ List.mem_cons_self) (by decide) (by decide) (by decide) fun h₁ tk₁ hsh₁ t₁ F₁ N₁ => ?_
  with_reducible
   refine x_assignA ?_ (by k_dflt exact rfl)
   refine d_num ?_
   refine z_local ‹_› ‹_› ‹_› (by tb_start) ?_
  with_reducible refine z_set S F₁ N₁ KF.kLex (setA_old List.mem_cons_self hxd) setA_new (by decide) (by rw [getL_put_ne (by decide)]; exact getL_nil) len_put1 fun h₂ tk₃ hsh₂ t₃ F₂ N₂ => ?_
  with_reducible
   refine x_assignA ?_ (by k_dflt exact rfl)
   refine z_local ‹_› ‹_› ‹_› (by tb_start) ?_
   refine z_local ‹_› ‹_› ‹_› (by tb_start) ?_
  with_reducible refine z_set S F₂ N₂ KF.kLex (setA_old (setA_old List.mem_cons_self hxd) hxd) setA_new (by decide) (by rw [getL_put_ne (by decide), getL_put_ne (by decide)]; exact getL_nil) (Nat.le_trans putL_length (Nat.le_trans (Nat.add_le_add_right putL_length 1) (by decide))) fun h₃ tk₄ hsh₃ t₄ F₃ N₃ => ?_
  with_reducible refine x_assignA ?_ (by k_dflt exact rfl)
  with_reducible refine PyProof.Rows.List_ (args_nil ?_)
  with_reducible refine z_list (vs := []) F₃ N₃ (by decide) fun T h₄ tk₅ F₄ N₄ hT => ?_
  with_reducible refine z_local ‹_› ‹_› ‹_› (by tb_start) ?_
  have hxn : (x, instObj A.cLex dx) ∈ setA dx (dictOf (putL "diags" hsh₃ (.str "diags" t₄) (.ref D) (putL "at" hsh₂ (.str "at" t₃) (.int ((0 : Nat) : Int) tk₁) (putL "text" hsh₁ (.str "text" t₁) (.str (strS cs) t) []))) (putN "diags" (putL "at" hsh₂ (.str "at" t₃) (.int ((0 : Nat) : Int) tk₁) (putL "text" hsh₁ (.str "text" t₁) (.str (strS cs) t) [])) (putN "at" (putL "text" hsh₁ (.str "text" t₁) (.str (strS cs) t) []) (putN "text" [] 0)))) (setA dx (dictOf (putL "at" hsh₂ (.str "at" t₃) (.int ((0 : Nat) : Int) tk₁) (putL "text" hsh₁ (.str "text" t₁) (.str (strS cs) t) [])) (putN "at" (putL "text" hsh₁ (.str "text" t₁) (.str (strS cs) t) []) (putN "text" [] 0))) (setA dx (dictOf (putL "text" hsh₁ (.str "text" t₁) (.str (strS cs) t) []) (putN "text" [] 0)) ((x, instObj A.cLex dx) :: (dx, dictOf [] 0) :: news))) := setA_old (setA_old (setA_old (.head _) hxd) hxd) hxd
  have hTx : x ≠ T := hT _ hxn
  have hTd : dx ≠ T := hT _ setA_new
  have hle : (putL "diags" hsh₃ (.str "diags" t₄) (.ref D) (putL "at" hsh₂ (.str "at" t₃) (.int ((0 : Nat) : Int) tk₁) (putL "text" hsh₁ (.str "text" t₁) (.str (strS cs) t) []))).length ≤ 3 := Nat.le_trans putL_length (Nat.le_trans (Nat.add_le_add_right (Nat.le_trans putL_length (Nat.add_le_add_right putL_length 1)) 1) (by decide))
  with_reducible refine z_set S F₄ N₄ KF.kLex (List.mem_cons_of_mem _ hxn) (List.mem_cons_of_mem _ setA_new) (by decide) (by rw [getL_put_ne (by decide), getL_put_ne (by decide), getL_put_ne (by decide)]; exact getL_nil) (Nat.le_trans hle (by decide)) fun h₅ tk₆ hsh₅ t₅ F₅ N₅ => ?_
  with_reducible
   refine x_nil ?_
   refine z_end ‹_› ‹_› ?_
  have old : ∀ p ∈ news, p.1 ≠ dx := fun p hp => Nat.ne_of_lt (hn p hp)
  have up3 : ∀ p ∈ news, p ∈ setA dx (dictOf (putL "diags" hsh₃ (.str "diags" t₄) (.ref D) (putL "at" hsh₂ (.str "at" t₃) (.int ((0 : Nat) : Int) tk₁) (putL "text" hsh₁ (.str "text" t₁) (.str (strS cs) t) []))) (putN "diags" (putL "at" hsh₂ (.str "at" t₃) (.int ((0 : Nat) : Int) tk₁) (putL "text" hsh₁ (.str "text" t₁) (.str (strS cs) t) [])) (putN "at" (putL "text" hsh₁ (.str "text" t₁) (.str (strS cs) t) []) (putN "text" [] 0)))) (setA dx (dictOf (putL "at" hsh₂ (.str "at" t₃) (.int ((0 : Nat) : Int) tk₁) (putL "text" hsh₁ (.str "text" t₁) (.str (strS cs) t) [])) (putN "at" (putL "text" hsh₁ (.str "text" t₁) (.str (strS cs) t) []) (putN "text" [] 0))) (setA dx (dictOf (putL "text" hsh₁ (.str "text" t₁) (.str (strS cs) t) []) (putN "text" [] 0)) ((x, instObj A.cLex dx) :: (dx, dictOf [] 0) :: news))) :=
    fun p hp => setA_old (setA_old (setA_old (.tail _ (.tail _ hp)) (old p hp)) (old p hp)) (old p hp)
  refine ⟨rfl, T, _, _, _, setA_old (.tail _ hxn) hxd, setA_new, ⟨?_, ⟨t, ?_⟩, ⟨tk₁, ?_⟩, ?_, ?_, ?_⟩, setA_old (.head _) (Ne.symm hTd), fun p hp => hT p (up3 p hp), Ne.symm hTx, Ne.symm hTd, fun p hp => setA_old (.tail _ (up3 p hp)) (old p hp)⟩
  · exact Nat.le_trans putL_length (Nat.le_trans (Nat.add_le_add_right hle 1) (by decide))
  · rw [getL_put_ne (by decide), getL_put_ne (by decide), getL_put_ne (by decide), getL_put]
  · rw [getL_put_ne (by decide), getL_put_ne (by decide), getL_put]
  · rw [getL_put_ne (by decide), getL_put]
  · rw [getL_put]
  · intro y hy
    have : ∀ y ∈ lexNames, y ≠ "tokens" ∧ y ≠ "diags" ∧ y ≠ "at" ∧ y ≠ "text" := by decide
    obtain ⟨q1, q2, q3, q4⟩ := this y hy
    rw [getL_put_ne q1, getL_put_ne q2, getL_put_ne q3, getL_put_ne q4]; rfl
theorem ct_dinit (KF : Kf W A) {x dx : Addr} (hne : dx < x) (hn : ∀ p ∈ news, p.1 < dx) :
    CtC W A.dinit [.ref x] 1 ((x, instObj A.cDiags dx) :: (dx, dictOf [] 0) :: news) (fun r l => r = .none ∧ ∃ R es k n, (x, instObj A.cDiags dx) ∈ l ∧ (dx, dictOf es k) ∈ l ∧ getL "rows" es = some (some (.ref R)) ∧ getL "put" es = some none ∧
      (R, listOf ([] : List Value).toArray n) ∈ l ∧ (∀ p ∈ news, p.1 ≠ R) ∧ R ≠ x ∧ R ≠ dx ∧ (∀ p ∈ news, p ∈ l)) := by
  have hxd : x ≠ dx := Nat.ne_of_gt hne
  with_reducible refine enterC KF.d_dinit.fn (fun _ _ _ _ _ _ => by kernel_rfl) (locs (by kernel_rfl)) (by kernel_rfl) (by kernel_rfl) (by kernel_rfl) (of_decide_eq_true (by kernel_rfl)) ?_
  intro c base g m s h tk₀ S F N hm
  have hm_self : m ("self" : Str) = some _ := (hm _).trans rfl
  clear hm
  have kl_self : Lc (dScope (metAt 47 0)) "self" := ⟨by kernel_rfl, by kernel_rfl⟩
  show wpAny _ _ (execs (_ :: _) _) _ _ _
  with_reducible refine x_assignA ?_ (by k_dflt exact rfl)
  with_reducible refine PyProof.Rows.List_ (args_nil ?_)
  with_reducible refine z_list (vs := []) F N (by decide) fun R h₄ tk₅ F₄ N₄ hT => ?_
  with_reducible refine z_local ‹_› ‹_› ‹_› (by tb_start) ?_
  with_reducible refine z_set S F₄ N₄ KF.kDiags (List.mem_cons_of_mem _ List.mem_cons_self) (List.mem_cons_of_mem _ (List.mem_cons_of_mem _ List.mem_cons_self)) (by decide) (by decide) (by decide) fun h₅ tk₆ hsh₅ t₅ F₅ N₅ => ?_
  with_reducible
   refine x_nil ?_
   refine z_end ‹_› ‹_› ?_
  have hTx : x ≠ R := hT _ (.head _)
  have hTd : dx ≠ R := hT _ (.tail _ (.head _))
  refine ⟨rfl, R, _, _, _, setA_old (.tail _ (.head _)) hxd, setA_new, getL_put, ?_, setA_old (.head _) (Ne.symm hTd), fun p hp => hT p (.tail _ (.tail _ hp)), Ne.symm hTx, Ne.symm hTd, fun p hp => setA_old (.tail _ (.tail _ (.tail _ hp))) (Nat.ne_of_lt (hn p hp))⟩
  rw [getL_put_ne (by decide)]; rfl
end
end Mine
end
section
open PySem PySem.W PySem.Calls PySem.Spec PyProof.Rows
set_option Elab.async false
set_option maxRecDepth 100000
set_option maxHeartbeats 2000000
namespace Mine
structure DiagS (A : Ad) (D dd R : Addr) (news : Led) : Prop where
  inst : (D, instObj A.cDiags dd) ∈ news
  dict : ∃ es k, (dd, dictOf es k) ∈ news ∧ getL "rows" es = some (some (.ref R)) ∧ getL "put" es = some none
  rows : ∃ n, (R, listOf ([] : List Value).toArray n) ∈ news
theorem DiagS.keep {A : Ad} {D dd R : Addr} {news news' : Led} (h : DiagS A D dd R news) (k : ∀ p ∈ news, p ∈ news') : DiagS A D dd R news' := by
  obtain ⟨es, n, h1, h2⟩ := h.dict
  obtain ⟨n', h3⟩ := h.rows
  exact ⟨k _ h.inst, ⟨es, n, k _ h1, h2⟩, ⟨n', k _ h3⟩⟩
section
variable {W : Wd} {A : Ad} {base g h : Heap} {c : Cx} {sc : Scope} {n : Nat} {m : Str → Option Value} {news : Led} {s : Shared} {tk' : Nat} {E : Value → Shared → Prop} {Q : Value → Shared → Prop} {cs : Cs} {t : Tok}
theorem u_newLex {D dd R : Addr} (S : Wk W base c g sc n) (F : Fr g c.L h m) (N : News g c.L h news) (KF : Kf W A) (DS : DiagS A D dd R news) (hn : 2 ≤ n)
    (hq : ∀ (a : La) h' tk' news', Fr g c.L h' m → News g c.L h' news' → LexS A a cs 0 [] [] news' → (a.R = R ∧ (∀ p ∈ news, p ∈ news') ∧ (∀ p ∈ news, p.1 ≠ a.d) ∧ (∀ p ∈ news, p.1 ≠ a.T)) → Q (.ref a.lx) (st s h' tk')) :
    wpAny W.M c.A (call (.ref A.cLex) [.str (strS cs) t, .ref D]) Q E (st s h tk') := by
  refine z_new (P := fun x dx l => ∃ T es k n, (x, instObj A.cLex dx) ∈ l ∧ (dx, dictOf es k) ∈ l ∧ LexD ⟨x, dx, D, dd, T, R⟩ cs 0 es ∧
      (T, listOf ([] : List Value).toArray n) ∈ l ∧ (∀ p ∈ news, p.1 ≠ T) ∧ T ≠ x ∧ T ≠ dx ∧ (∀ p ∈ news, p ∈ l)) S F N KF.mkLex.1 KF.m_linit (fun x dx h1 h2 => ct_linit KF h2 h1) hn fun x dx h' tk' l F' N' h1 h2 hp => ?_
  obtain ⟨T, es, k, n, q1, q2, q3, q4, q5, q6, q7, q8⟩ := hp
  have DS' := DS.keep q8
  obtain ⟨es', k', d1, d2, d3⟩ := DS.dict
  obtain ⟨n', d4⟩ := DS.rows
  have od : ∀ p ∈ news, p.1 ≠ dx := fun p hp => Nat.ne_of_lt (h1 p hp)
  have ox : ∀ p ∈ news, p.1 ≠ x := fun p hp => Nat.ne_of_lt (Nat.lt_trans (h1 p hp) h2)
  have hxd : x ≠ dx := Nat.ne_of_gt h2
  have dR : dd ≠ R := news_ne N d1 d4 fun e => by cases congrArg Obj.data e
  have DR : D ≠ R := news_ne N DS.inst d4 fun e => by cases congrArg Obj.data e
  have Dd : D ≠ dd := news_ne N DS.inst d1 fun e => by cases congrArg Obj.data e
  have S3 : ∀ {b : Addr}, b ≠ dx → b ≠ T → b ≠ R → b ∉ (La.S ⟨x, dx, D, dd, T, R⟩) := fun a1 a2 a3 hm => by
    rcases List.mem_cons.mp hm with e | hm
    · exact a1 e
    rcases List.mem_cons.mp hm with e | hm
    · exact a2 e
    · exact a3 (List.mem_singleton.mp hm)
  refine hq ⟨x, dx, D, dd, T, R⟩ h' tk' l F' N' ⟨q1, ⟨es, k, q2, q3⟩, DS'.inst, ⟨es', k', q8 _ d1, d2, d3⟩, ⟨[], [], n, n', [], q4, q8 _ d4, .nil, .nil, fun _ hp => nomatch hp⟩, Ne.symm (q5 _ d4), Ne.symm (od _ d1), ⟨S3 hxd (Ne.symm q6) (Ne.symm (ox _ d4)), S3 (od _ DS.inst) (q5 _ DS.inst) DR, S3 (od _ d1) (q5 _ d1) dR, Ne.symm q7, Ne.symm (od _ d4)⟩⟩ ⟨rfl, q8, od, q5⟩
theorem u_newDiags (S : Wk W base c g sc n) (F : Fr g c.L h m) (N : News g c.L h news) (KF : Kf W A) (hn : 2 ≤ n)
    (hq : ∀ x dx R h' tk' news', Fr g c.L h' m → News g c.L h' news' → DiagS A x dx R news' → ((∀ p ∈ news, p ∈ news') ∧ (∀ p ∈ news, p.1 ≠ R)) → Q (.ref x) (st s h' tk')) :
    wpAny W.M c.A (call (.ref A.cDiags) []) Q E (st s h tk') := by
  refine z_new (P := fun x dx l => ∃ R es k n, (x, instObj A.cDiags dx) ∈ l ∧ (dx, dictOf es k) ∈ l ∧ getL "rows" es = some (some (.ref R)) ∧ getL "put" es = some none ∧
      (R, listOf ([] : List Value).toArray n) ∈ l ∧ (∀ p ∈ news, p.1 ≠ R) ∧ R ≠ x ∧ R ≠ dx ∧ (∀ p ∈ news, p ∈ l)) S F N KF.mkDiags.1 KF.m_dinit (fun x dx h1 h2 => ct_dinit KF h2 h1) hn fun x dx h' tk' l F' N' h1 h2 hp => ?_
  obtain ⟨R, es, k, n, q1, q2, q3, q4, q5, q6, q7, q8, q9⟩ := hp
  exact hq x dx R h' tk' l F' N' ⟨q1, ⟨es, k, q2, q3, q4⟩, ⟨n, q5⟩⟩ ⟨q9, q6⟩
end
section
variable {W : Wd} {A : Ad} {news : Led} {cs : Cs}
theorem dat_end {tl : Led} {vs : List Value} {ds : List Dat} (h : DatAll tl vs ds) : DatAll tl vs ds := h
theorem ct_lex (KF : Kf W A) {D dd R : Addr} {TK FL : List Dat} {t : Tok} (hL : Lexes 0 cs TK FL) (hl : cs.length ≤ 100000) (hall : ∀ c ∈ cs, c < 1114112) (hTK : TK.length ≤ 100000) (hFL : FL.length ≤ 100000) (DS : DiagS A D dd R news) :
    Ct W A.lex [.str (strS cs) t, .ref D] 8 news (fun r l => ∃ T vs ws n n' tl, r = .ref T ∧ (T, listOf vs.toArray n) ∈ l ∧ (R, listOf ws.toArray n') ∈ l ∧ DatAll tl vs (TK ++ [tokD 0 (strD []) cs.length]) ∧ DatAll tl ws FL ∧ (∀ p ∈ tl, p ∈ l) ∧
      Kp [R] news l) := by
  obtain ⟨j₀, n₀, hs₀, _, hj₀, hat₀⟩ := at_of hL rfl (Nat.zero_le _)
  with_reducible refine enter KF.d_lex.fn (fun _ _ _ _ _ _ => by kernel_rfl) (locs (by kernel_rfl)) (by kernel_rfl) (by kernel_rfl) (by kernel_rfl) (of_decide_eq_true (by kernel_rfl)) ?_
  intro c base g m s h tk₀ S F N hm
  have hm_text : m ("text" : Str) = some _ := (hm _).trans rfl
  have hm_diags : m ("diags" : Str) = some _ := (hm _).trans rfl
  clear hm
  have kl_text : Lc (dScope (defAt 22)) "text" := ⟨by kernel_rfl, by kernel_rfl⟩
  have kl_diags : Lc (dScope (defAt 22)) "diags" := ⟨by kernel_rfl, by kernel_rfl⟩
  have kl_lx : Lc (dScope (defAt 22)) "lx" := ⟨by kernel_rfl, by kernel_rfl⟩
  have kg_Lex : Gb (dScope (defAt 22)) "Lex" := ⟨by kernel_rfl, by kernel_rfl⟩
  have kk_Lex := KF.mkLex.2
  have gg_Lex := KF.g_Lex
  have kg_skip_blanks : Gb (dScope (defAt 22)) "skip_blanks" := ⟨by kernel_rfl, by kernel_rfl⟩
  have kk_skip_blanks := KF.d_skip_blanks.keep
  have gg_skip_blanks := KF.g_skip_blanks
  have kg_TK_END : Gb (dScope (defAt 22)) "TK_END" := ⟨by kernel_rfl, by kernel_rfl⟩
  obtain ⟨ti_TK_END, gg_TK_END⟩ := KF.i_TK_END
  have kg_len : Gb (dScope (defAt 22)) "len" := ⟨by kernel_rfl, by kernel_rfl⟩
  have kg_lex_one : Gb (dScope (defAt 22)) "lex_one" := ⟨by kernel_rfl, by kernel_rfl⟩
  have kk_lex_one := KF.d_lex_one.keep
  have gg_lex_one := KF.g_lex_one
  have kk_put := KF.m_put.keep
  show wpAny _ _ (execs (_ :: _) _) _ _ _
  with_reducible
   refine x_assign ?_ (by k_dflt exact rfl)
   refine e_call2 ‹_› ‹_› ‹_› ‹_› ‹_› ‹_› (by tb_start) ‹_› (by tb_start) ?_
   refine u_newLex ‹_› ‹_› ‹_› ‹_› ‹_› (by k_dflt decide) ?_; intro _ _ _ _ _ _ _ _
   refine z_store ‹_› ‹_› ‹_› ‹_› ?_; intro _ _ _ _
   refine z_expr ‹_› ?_ (by k_dflt exact rfl)
   refine e_call1 ‹_› ‹_› ‹_› ‹_› ‹_› ‹_› (by tb_start) ?_
   refine z_useL ‹_› ‹_› ‹_› (ct_skip_blanks ‹_› ‹_› ‹_› ‹_›) (by k_dflt decide) ?_; intro _ _ _ _ _ _ _
  rename_i a h₁ tk₁ news₁ F₁ N₁ L₁ up h₂ tk₂ F₂ N₂ h₃ tk₃ news₃ F₃ N₃ L₃ K₃
  obtain ⟨rfl, up1, up2, up3⟩ := up
  clear hs₀
  with_reducible refine x_while (fun n m' l => ∃ i td fd tr fr t', n = cs.length - i ∧ i ≤ cs.length ∧ At cs i tr fr ∧ td ++ tr = TK ∧ fd ++ fr = FL ∧ m' ("lx" : Str) = some (.ref a.lx) ∧ m' ("text" : Str) = some (.str (strS cs) t') ∧ LexS A a cs i td fd l ∧ Kp a.S news₁ l) (cs.length - j₀) F₃ N₃ ?_ ?_
  · exact ⟨j₀, [], [], TK, FL, t, rfl, hj₀, hat₀, rfl, rfl, by tb_start, by tb_start, L₃, K₃⟩
  · rintro n h tk' m' l F N ⟨i, td, fd, tr, fr, t', rfl, hi, hat, e1, e2, hm1, hm2, L, K⟩
    clear hm_text L₁ L₃ K₃ hat₀ hL N₁ N₂ N₃ F₁ F₂ F₃
    have hz : td.length ≤ 100000 := by have := congrArg List.length e1; rw [List.length_append] at this; lia
    have hz' : fd.length ≤ 100000 := by have := congrArg List.length e2; rw [List.length_append] at this; lia
    cases hat with
    | fin he =>
      have f1 : decide (i < cs.length) = false := decide_eq_false (by lia)
      rw [List.append_nil] at e1 e2
      subst e1 e2
      with_reducible
       refine t_cmp ?_
       refine z_aAt ‹_› ‹_› ‹_› ‹_› (by tb_start) ‹_› ‹_› ?_; intro _ _
       refine e_built ‹_› ‹_› ‹_› (Kf.b_len ‹_›) boot_len (by decide) ?_ (by k_dflt exact rfl)
       refine z_local ‹_› ‹_› ‹_› (by tb_start) ?_
       refine d_len ‹_› ?_
       refine n_lt ?_
       refine Exists.intro _ (And.intro rfl ?_)
       refine dec_ff ‹_› ?_
       refine z_expr ‹_› ?_ (by k_dflt exact rfl)
       refine PyProof.Rows.MethodCall_ ?_ (by k_dflt exact rfl)
       refine z_local ‹_› ‹_› ‹_› (by tb_start) ?_
       refine m_lex ‹_› ‹_› ‹_› ‹_› ‹_› (Kf.m_put ‹_›) mem_here.2.2.1 ?_
       refine z_mcall ‹_› ‹_› ?_ (by k_dflt exact rfl) (by k_dflt exact rfl)
       refine z_args ?_ (by k_dflt exact rfl)
       refine z_global ‹_› ‹_› ‹_› ‹_› ?_
       refine z_args ?_ (by k_dflt exact rfl)
       refine d_str ?_
       refine z_args ?_ (by k_dflt exact rfl)
       refine e_built ‹_› ‹_› ‹_› (Kf.b_len ‹_›) boot_len (by decide) ?_ (by k_dflt exact rfl)
       refine z_local ‹_› ‹_› ‹_› (by tb_start) ?_
       refine d_len ‹_› ?_
       refine z_args0 ?_
       refine And.intro (Exists.intro _ ‹_›) ?_
       refine u_put ‹_› ‹_› ‹_› ‹_› ‹_› ‹_› (by k_dflt decide) (by first | with_reducible assumption | ((with_reducible show Apart _ _ (Value.str _ _) _); with_reducible exact Apart.str) | ((with_reducible show Apart _ _ (Value.int _ _) _); with_reducible exact Apart.int)) ?_; intro _ _ _ _ _ _ _
       refine x_ret ?_
       refine z_aTokens ‹_› ‹_› ‹_› ‹_› (by tb_start) ‹_› ‹_› ?_; intro _
       refine z_done ‹_› ‹_› ?_
      have L₄ : ∃ l, LexS A a cs i (td ++ [tokD 0 (strD []) cs.length]) fd l := ⟨_, by assumption⟩
      clear L₄
      rename_i l₄ _ _ L₄ _ _
      obtain ⟨vs, ws, n1, n2, tl, q1, q2, q3, q4, q5⟩ := L₄.data
      refine ⟨a.T, vs, ws, n1, n2, tl, rfl, q1, q2, q3, q4, fun p hp => (q5 p hp).1, fun p hp hn => ?_⟩
      refine (show Kp a.S news₁ _ from by lcg_sub) p (up1 p hp) ?_
      intro hm
      rcases List.mem_cons.mp hm with e | hm
      · exact up2 p hp e
      rcases List.mem_cons.mp hm with e | hm
      · exact up3 p hp e
      · exact hn hm
    | @tok al rest ta fa tb fb hlt hd ho hl2 =>
      have f1 : decide (i < cs.length) = true := decide_eq_true hlt
      have hct := one_ct KF L hl hz hz' hall hd hi ho
      obtain ⟨j₁, n₁, hs₁, hj, hj₁, hat₁⟩ := at_of hl2 (drop_more hd) (drop_len hd hi)
      have hal : 1 ≤ al.length := by
        obtain ⟨c, r, e, _⟩ := one_start ho
        rw [e]; simp
      have hk : cs.length - j₁ < cs.length - i := by lia
      with_reducible
       refine t_cmp ?_
       refine z_aAt ‹_› ‹_› ‹_› ‹_› (by tb_start) ‹_› ‹_› ?_; intro _ _
       refine e_built ‹_› ‹_› ‹_› (Kf.b_len ‹_›) boot_len (by decide) ?_ (by k_dflt exact rfl)
       refine z_local ‹_› ‹_› ‹_› (by tb_start) ?_
       refine d_len ‹_› ?_
       refine n_lt ?_
       refine Exists.intro _ (And.intro rfl ?_)
       refine dec_tt ‹_› ?_
       refine z_expr ‹_› ?_ (by k_dflt exact rfl)
       refine e_call1 ‹_› ‹_› ‹_› ‹_› ‹_› ‹_› (by tb_start) ?_
       refine z_useL ‹_› ‹_› ‹_› ‹_› (by k_dflt decide) ?_; intro _ _ _ _ _ _ _
       refine z_expr ‹_› ?_ (by k_dflt exact rfl)
       refine e_call1 ‹_› ‹_› ‹_› ‹_› ‹_› ‹_› (by tb_start) ?_
       refine z_useL ‹_› ‹_› ‹_› (ct_skip_blanks ‹_› ‹_› ‹_› ‹_›) (by k_dflt decide) ?_; intro _ _ _ _ _ _ _
       refine x_nil ?_
      with_reducible refine loop_next (k := cs.length - j₁) (by assumption) (by assumption) hk ?_
      exact ⟨j₁, td ++ ta, fd ++ fa, tb, fb, t', rfl, hj₁, hat₁, by rw [List.append_assoc]; exact e1, by rw [List.append_assoc]; exact e2, by tb_start, by tb_start, by assumption, by lcg_sub⟩
end
end Mine
end
section
open PySem PySem.W PySem.Calls PySem.Spec PyProof.Rows
set_option Elab.async false
set_option maxRecDepth 100000
namespace Mine
def sp (c : Nat) : List Nat → List (List Nat)
  | [] => [[]]
  | x :: r => if x = c then [] :: sp c r else match sp c r with
    | [] => [[x]]
    | w :: ws => (x :: w) :: ws
def joinL (c : Nat) : List (List Nat) → List Nat
  | [] => []
  | [w] => w
  | w :: r => w ++ c :: joinL c r
theorem sp_ne {c : Nat} {l : List Nat} : ∃ w ws, sp c l = w :: ws := by
  cases l with
  | nil => exact ⟨_, _, rfl⟩
  | cons x r =>
    unfold sp
    split
    · exact ⟨_, _, rfl⟩
    · split
      · exact ⟨_, _, rfl⟩
      · exact ⟨_, _, rfl⟩
theorem sp_app {c : Nat} {l : List Nat} : ∀ {w : List Nat}, c ∉ w → sp c (w ++ c :: l) = w :: sp c l
  | [], _ => by
    show sp c (c :: l) = _
    rw [sp, if_pos rfl]
  | x :: w, h => by
    have h1 : x ≠ c := fun e => h (e ▸ .head _)
    have ih := sp_app (l := l) (w := w) fun hm => h (.tail _ hm)
    show sp c (x :: (w ++ c :: l)) = _
    rw [sp, if_neg h1, ih]
theorem sp_free {c : Nat} : ∀ {w : List Nat}, c ∉ w → sp c w = [w]
  | [], _ => rfl
  | x :: w, h => by
    have h1 : x ≠ c := fun e => h (e ▸ .head _)
    have ih := sp_free (w := w) fun hm => h (.tail _ hm)
    rw [sp, if_neg h1, ih]
theorem sp_join {c : Nat} : ∀ {ws : List (List Nat)}, ws ≠ [] → (∀ w ∈ ws, c ∉ w) → sp c (joinL c ws) = ws
  | [], h, _ => absurd rfl h
  | [w], _, h => sp_free (h w (.head _))
  | w :: v :: r, _, h => by
    show sp c (w ++ c :: joinL c (v :: r)) = _
    rw [sp_app (h w (.head _)), sp_join (List.cons_ne_nil _ _) fun u hu => h u (.tail _ hu)]
theorem join_joinL (c : Nat) : ∀ ws : List (List Nat), PySem.Str.join (strS [c]) (ws.map fun y => strS y) = strS (joinL c ws)
  | [] => rfl
  | [w] => rfl
  | w :: v :: r => by
    show strS w ++ strS [c] ++ PySem.Str.join (strS [c]) ((v :: r).map fun y => strS y) = _
    rw [join_joinL c (v :: r), strS_app, strS_app]
    show strS (w ++ [c] ++ joinL c (v :: r)) = strS (w ++ c :: joinL c (v :: r))
    rw [List.append_assoc]; rfl
theorem map_strS (l : List Str) : l = (l.map fun x => x.cps.toList).map fun y => strS y := by
  rw [List.map_map]
  conv => lhs; rw [← List.map_id l]
  exact List.map_congr_left fun x _ => strS_self x
theorem split_ne (x : Str) (c : Nat) : Txt.split x (strS [c]) ≠ [] := by
  intro e
  unfold Txt.split at e
  split at e
  · cases e
  split at e
  · cases e
  rw [StrLaws.partsBetween_eq] at e
  obtain ⟨p, r, q⟩ := StrLaws.partsFrom_ne x (strS [c]).length 0 (Builtin.Str.occurrences x (strS [c]) 0 x.length (x.length + 1))
  rw [q] at e
  cases e
theorem split_sp (x : Str) (c : Nat) : Txt.split x (strS [c]) = (sp c x.cps.toList).map fun y => strS y := by
  have h1 := StrLaws.join_split x (strS [c])
  have h2 : ∀ p ∈ Txt.split x (strS [c]), c ∉ p.cps.toList := StrLaws.split_free x c
  have h3 := split_ne x c
  generalize Txt.split x (strS [c]) = l at h1 h2 h3
  rw [map_strS l] at h1 ⊢
  rw [join_joinL] at h1
  have e : x.cps.toList = joinL c (l.map fun x => x.cps.toList) := by rw [← h1, strS_list]
  rw [e, sp_join]
  · intro q
    exact h3 (List.map_eq_nil_iff.mp q)
  · intro w hw
    obtain ⟨p, hp, rfl⟩ := List.mem_map.mp hw
    exact h2 p hp
theorem replace_sp (x : Str) (c d : Nat) : Txt.replace x (strS [c]) (strS [d]) = strS (joinL d (sp c x.cps.toList)) := by
  have h := StrLaws.replace_one x (strS [d]) c
  have h' : Txt.replace x (strS [c]) (strS [d]) = PySem.Str.join (strS [d]) (Txt.split x (strS [c])) := h
  rw [h', split_sp, join_joinL]
theorem split_replace {x y z : Str} {c d : Nat} {ws : List (List Nat)} (hy : y = strS [c]) (hz : z = strS [d]) (e : sp d (joinL d (sp c x.cps.toList)) = ws) : Txt.split (Txt.replace x y z) z = ws.map fun y => strS y := by
  subst hy hz
  rw [replace_sp, split_sp, strS_list, e]
theorem split_one {x y : Str} {c : Nat} {ws : List (List Nat)} (hy : y = strS [c]) (e : sp c x.cps.toList = ws) : Txt.split x y = ws.map fun y => strS y := by
  subst hy
  rw [split_sp, e]
theorem joinL_len (d : Nat) : ∀ ws : List (List Nat), (joinL d ws).length + 1 ≤ (ws.map List.length).sum + ws.length + 1
  | [] => by simp [joinL]
  | [w] => by simp [joinL]
  | w :: v :: r => by
    have := joinL_len d (v :: r)
    show (w ++ d :: joinL d (v :: r)).length + 1 ≤ _
    simp only [List.length_append, List.length_cons, List.map_cons, List.sum_cons] at this ⊢
    lia
end Mine
end
section
open PySem PySem.W PySem.Calls PySem.Spec PyProof.Rows
set_option Elab.async false
set_option maxRecDepth 100000
set_option maxHeartbeats 2000000
namespace Mine
section
variable {kvs : List (Str × Value)} {k k' : Str} {v u : Value}
theorem at_stored : valueAt (stored kvs k v) k = some v := by
  unfold stored
  split
  · rename_i h
    unfold valueAt
    induction kvs with
    | nil => simp at h
    | cons p r ih =>
      rw [List.map_cons, List.find?_cons]
      by_cases e : p.1 = k
      · simp [e]
      · simp only [e, if_false, decide_false]
        refine ih ?_
        simpa [e] using h
  · rename_i h
    unfold valueAt
    rw [List.find?_append]
    have : List.find? (fun kv => decide (kv.1 = k)) kvs = none := by
      rw [List.find?_eq_none]
      intro x hx hq
      exact h (List.any_eq_true.mpr ⟨x, hx, hq⟩)
    rw [this]
    simp
theorem at_stored_ne (hn : k' ≠ k) : valueAt (stored kvs k v) k' = valueAt kvs k' := by
  unfold stored
  split
  · rename_i h
    clear h
    unfold valueAt
    induction kvs with
    | nil => rfl
    | cons p r ih =>
      rw [List.map_cons, List.find?_cons, List.find?_cons]
      by_cases e : p.1 = k
      · have : ¬ k = k' := Ne.symm hn
        simp only [e, if_true, this, decide_false]
        exact ih
      · simp only [e, if_false]
        split
        · rfl
        · exact ih
  · unfold valueAt
    rw [List.find?_append]
    have : List.find? (fun kv : Str × Value => decide (kv.1 = k')) [(k, v)] = none := by simp [Ne.symm hn]
    rw [this, Option.or_none]
theorem stored_len (h : valueAt kvs k = some u) : (stored kvs k v).length = kvs.length := by
  unfold stored
  rw [if_pos, List.length_map]
  have := valueAt_isSome_eq_any kvs k
  rw [h] at this
  exact this.symm
end
abbrev Bw.tx (b : Bw) (x : Cs) : Bw := { b with text := x }
abbrev Bw.nm (b : Bw) (x : Cs) : Bw := { b with name := x }
abbrev Bw.bg (b : Bw) (x : Nat) : Bw := { b with begin := x }
abbrev Bw.mk₂ (b : Bw) (x : Bool) : Bw := { b with marked := x }
abbrev Bw.nb (b : Bw) (x : Bool) : Bw := { b with number := x }
abbrev Bw.pt (b : Bw) (d : Dat) : Bw := { b with toks := b.toks ++ [d] }
abbrev Bw.pr (b : Bw) (d : Dat) : Bw := { b with flts := b.flts ++ [d] }
structure BwD (a : La) (b : Bw) (kvs : List (Str × Value)) : Prop where
  len : kvs.length ≤ 50
  text : ∃ t, valueAt kvs ("text" : Str) = some (.str (strS b.text) t)
  name : ∃ t, valueAt kvs ("name" : Str) = some (.str (strS b.name) t)
  begin : ∃ t, valueAt kvs ("begin" : Str) = some (.int (b.begin : Nat) t)
  marked : valueAt kvs ("marked" : Str) = some (.bool b.marked)
  number : valueAt kvs ("number" : Str) = some (.bool b.number)
  tokens : valueAt kvs ("tokens" : Str) = some (.ref a.T)
  faults : valueAt kvs ("faults" : Str) = some (.ref a.R)
theorem BwD.setText {a : La} {b : Bw} {kvs : List (Str × Value)} {x : Cs} {t : Tok} (h : BwD a b kvs) : BwD a (b.tx x) (stored kvs ("text" : Str) (.str (strS x) t)) := by
  obtain ⟨u, e⟩ := h.text
  exact ⟨by rw [stored_len e]; exact h.len, ⟨t, at_stored⟩, by rw [at_stored_ne (by decide)]; exact h.name, by rw [at_stored_ne (by decide)]; exact h.begin, by rw [at_stored_ne (by decide)]; exact h.marked, by rw [at_stored_ne (by decide)]; exact h.number, by rw [at_stored_ne (by decide)]; exact h.tokens, by rw [at_stored_ne (by decide)]; exact h.faults⟩
theorem BwD.setName {a : La} {b : Bw} {kvs : List (Str × Value)} {x : Cs} {t : Tok} (h : BwD a b kvs) : BwD a (b.nm x) (stored kvs ("name" : Str) (.str (strS x) t)) := by
  obtain ⟨u, e⟩ := h.name
  exact ⟨by rw [stored_len e]; exact h.len, by rw [at_stored_ne (by decide)]; exact h.text, ⟨t, at_stored⟩, by rw [at_stored_ne (by decide)]; exact h.begin, by rw [at_stored_ne (by decide)]; exact h.marked, by rw [at_stored_ne (by decide)]; exact h.number, by rw [at_stored_ne (by decide)]; exact h.tokens, by rw [at_stored_ne (by decide)]; exact h.faults⟩
theorem BwD.setBegin {a : La} {b : Bw} {kvs : List (Str × Value)} {x : Nat} {t : Tok} (h : BwD a b kvs) : BwD a (b.bg x) (stored kvs ("begin" : Str) (.int (x : Nat) t)) := by
  obtain ⟨u, e⟩ := h.begin
  exact ⟨by rw [stored_len e]; exact h.len, by rw [at_stored_ne (by decide)]; exact h.text, by rw [at_stored_ne (by decide)]; exact h.name, ⟨t, at_stored⟩, by rw [at_stored_ne (by decide)]; exact h.marked, by rw [at_stored_ne (by decide)]; exact h.number, by rw [at_stored_ne (by decide)]; exact h.tokens, by rw [at_stored_ne (by decide)]; exact h.faults⟩
theorem BwD.setMarked {a : La} {b : Bw} {kvs : List (Str × Value)} {x : Bool} (h : BwD a b kvs) : BwD a (b.mk₂ x) (stored kvs ("marked" : Str) (.bool x)) := by
  have e := h.marked
  exact ⟨by rw [stored_len e]; exact h.len, by rw [at_stored_ne (by decide)]; exact h.text, by rw [at_stored_ne (by decide)]; exact h.name, by rw [at_stored_ne (by decide)]; exact h.begin, at_stored, by rw [at_stored_ne (by decide)]; exact h.number, by rw [at_stored_ne (by decide)]; exact h.tokens, by rw [at_stored_ne (by decide)]; exact h.faults⟩
theorem BwD.setNumber {a : La} {b : Bw} {kvs : List (Str × Value)} {x : Bool} (h : BwD a b kvs) : BwD a (b.nb x) (stored kvs ("number" : Str) (.bool x)) := by
  have e := h.number
  exact ⟨by rw [stored_len e]; exact h.len, by rw [at_stored_ne (by decide)]; exact h.text, by rw [at_stored_ne (by decide)]; exact h.name, by rw [at_stored_ne (by decide)]; exact h.begin, by rw [at_stored_ne (by decide)]; exact h.marked, at_stored, by rw [at_stored_ne (by decide)]; exact h.tokens, by rw [at_stored_ne (by decide)]; exact h.faults⟩
structure BwS (W : Wd) (a : La) (b : Bw) (news : Led) : Prop where
  dict : ∃ o kvs, (a.d, o) ∈ news ∧ o.IsDictOf (strKind W.prog W.w) kvs ∧ BwD a b kvs
  data : ∃ vs ws n n' tl, (a.T, listOf vs.toArray n) ∈ news ∧ (a.R, listOf ws.toArray n') ∈ news ∧ DatAll tl vs b.toks ∧ DatAll tl ws b.flts ∧ (∀ p ∈ tl, p ∈ news ∧ p.1 ∉ a.S ∧ p.2.cls = .type "tuple")
  ne : a.T ≠ a.R ∧ a.d ≠ a.T ∧ a.d ≠ a.R
theorem BwS.keep {W : Wd} {a : La} {b : Bw} {news news' : Led} (h : BwS W a b news) (k : ∀ p ∈ news, p ∈ news') : BwS W a b news' := by
  obtain ⟨o, kvs, h1, h2⟩ := h.dict
  obtain ⟨vs, ws, k1, k2, tl, q1, q2, q3, q4, q5⟩ := h.data
  exact ⟨⟨o, kvs, k _ h1, h2⟩, ⟨vs, ws, k1, k2, tl, k _ q1, k _ q2, q3, q4, fun p hp => ⟨k _ (q5 p hp).1, (q5 p hp).2⟩⟩, h.ne⟩
theorem BwS.kp {W : Wd} {a : La} {b : Bw} {news news' : Led} {S : List Addr} (h : BwS W a b news) (k : Kp S news news') (h1 : a.d ∉ S) (h2 : a.T ∉ S) (h3 : a.R ∉ S) (h4 : ∀ p ∈ news, p.2.cls = .type "tuple" → p.1 ∉ S) : BwS W a b news' := by
  obtain ⟨o, kvs, d1, d2⟩ := h.dict
  obtain ⟨vs, ws, k1, k2, tl, q1, q2, q3, q4, q5⟩ := h.data
  exact ⟨⟨o, kvs, k _ d1 h1, d2⟩, ⟨vs, ws, k1, k2, tl, k _ q1 h2, k _ q2 h3, q3, q4, fun p hp => ⟨k _ (q5 p hp).1 (h4 p (q5 p hp).1 (q5 p hp).2.2), (q5 p hp).2⟩⟩, h.ne⟩
theorem BwS.lens {W : Wd} {a : La} {b : Bw} {news : Led} (L : BwS W a b news) : ∃ (vs ws : List Value) (k k' : Nat), (a.T, listOf vs.toArray k) ∈ news ∧ (a.R, listOf ws.toArray k') ∈ news ∧ vs.length = b.toks.length ∧ ws.length = b.flts.length := by
  obtain ⟨vs, ws, k1, k2, tl, q1, q2, q3, q4, q5⟩ := L.data
  exact ⟨vs, ws, k1, k2, q1, q2, q3.length, q4.length⟩
theorem BwS.fresh {W : Wd} {a : La} {b : Bw} {news : Led} {q : Addr} (L : BwS W a b news) (hq : ∀ p ∈ news, p.1 ≠ q) : q ∉ a.S := by
  obtain ⟨o, kvs, h1, h2⟩ := L.dict
  obtain ⟨vs, ws, k1, k2, tl, q1, q2, q3, q4, q5⟩ := L.data
  intro hm
  rcases List.mem_cons.mp hm with e | hm
  · exact hq _ h1 e.symm
  rcases List.mem_cons.mp hm with e | hm
  · exact hq _ q1 e.symm
  · exact hq _ q2 (List.mem_singleton.mp hm).symm
theorem BwS.setD {W : Wd} {a : La} {b b' : Bw} {news : Led} {o' : Obj} {kvs' : List (Str × Value)} (h : BwS W a b news) (ho : o'.IsDictOf (strKind W.prog W.w) kvs') (hd : BwD a b' kvs') (ht : b'.toks = b.toks) (hf : b'.flts = b.flts) :
    BwS W a b' (setA a.d o' news) := by
  obtain ⟨vs, ws, k1, k2, tl, q1, q2, q3, q4, q5⟩ := h.data
  obtain ⟨n1, n2, n3⟩ := h.ne
  refine ⟨⟨o', kvs', setA_new, ho, hd⟩, ⟨vs, ws, k1, k2, tl, setA_old q1 (Ne.symm n2), setA_old q2 (Ne.symm n3), by rw [ht]; exact q3, by rw [hf]; exact q4, fun p hp => ⟨setA_old (q5 p hp).1 fun e => (q5 p hp).2.1 (e ▸ .head _), (q5 p hp).2⟩⟩, h.ne⟩
theorem BwS.pushT {W : Wd} {a : La} {b : Bw} {news : Led} {v : Value} {d : Dat} {vs : List Value} {k : Nat} {g h : Heap} {Lf : Addr} (N : News g Lf h news) (L : BwS W a b news) (hT : (a.T, listOf vs.toArray k) ∈ news)
    (hv : Apart a news v d) : BwS W a (b.pt d) (setA a.T (listOf (vs ++ [v]).toArray (k + 1)) news) ∧ Kp a.S news (setA a.T (listOf (vs ++ [v]).toArray (k + 1)) news) := by
  obtain ⟨o, kvs, h1, h2⟩ := L.dict
  obtain ⟨vs', ws, k1, k2, tl, q1, q2, q3, q4, q5⟩ := L.data
  obtain ⟨n1, n2, n3⟩ := L.ne
  obtain ⟨tv, v1, v2⟩ := hv
  have e := news_eq N hT q1
  have e1 : vs = vs' := by simpa using congrArg (fun o : Obj => match o.data with | .seq xs _ => xs.toList | _ => []) e
  have e2 : k = k1 := by simpa using congrArg (fun o : Obj => match o.data with | .seq _ n => n | _ => 0) e
  subst e1 e2
  have old : ∀ {p : Addr × Obj}, p ∈ news → p.1 ≠ a.T → p ∈ setA a.T (listOf (vs ++ [v]).toArray (k + 1)) news := fun hp hn => setA_old hp hn
  have out : ∀ {x : Addr}, x ∉ a.S → x ≠ a.T := fun hx e => hx (e ▸ .tail _ (.head _))
  refine ⟨⟨⟨o, kvs, old h1 n2, h2.1, ⟨h2.2.len, h2.2.text, h2.2.name, h2.2.begin, h2.2.marked, h2.2.number, h2.2.tokens, h2.2.faults⟩⟩, ⟨vs ++ [v], ws, k + 1, k2, tl ++ tv, setA_new, old q2 (Ne.symm n1), ?_, DatAll.mono (fun p hp => List.mem_append.mpr (.inl hp)) q4, fun p hp => ?_⟩, L.ne⟩, Kp.set (.tail _ (.head _))⟩
  · exact (DatAll.mono (fun p hp => List.mem_append.mpr (.inl hp)) q3).append (.one (DatIn.mono (fun p hp => List.mem_append.mpr (.inr hp)) v2))
  · rcases List.mem_append.mp hp with hp | hp
    · exact ⟨old (q5 p hp).1 (out (q5 p hp).2.1), (q5 p hp).2⟩
    · exact ⟨old (v1 p hp).1 (out (v1 p hp).2.1), (v1 p hp).2⟩
theorem BwS.pushR {W : Wd} {a : La} {b : Bw} {news : Led} {v : Value} {d : Dat} {vs : List Value} {k : Nat} {g h : Heap} {Lf : Addr} (N : News g Lf h news) (L : BwS W a b news) (hT : (a.R, listOf vs.toArray k) ∈ news)
    (hv : Apart a news v d) : BwS W a (b.pr d) (setA a.R (listOf (vs ++ [v]).toArray (k + 1)) news) ∧ Kp a.S news (setA a.R (listOf (vs ++ [v]).toArray (k + 1)) news) := by
  obtain ⟨o, kvs, h1, h2⟩ := L.dict
  obtain ⟨ws, vs', k2, k1, tl, q2, q1, q4, q3, q5⟩ := L.data
  obtain ⟨n1, n2, n3⟩ := L.ne
  obtain ⟨tv, v1, v2⟩ := hv
  have e := news_eq N hT q1
  have e1 : vs = vs' := by simpa using congrArg (fun o : Obj => match o.data with | .seq xs _ => xs.toList | _ => []) e
  have e2 : k = k1 := by simpa using congrArg (fun o : Obj => match o.data with | .seq _ n => n | _ => 0) e
  subst e1 e2
  have old : ∀ {p : Addr × Obj}, p ∈ news → p.1 ≠ a.R → p ∈ setA a.R (listOf (vs ++ [v]).toArray (k + 1)) news := fun hp hn => setA_old hp hn
  have out : ∀ {x : Addr}, x ∉ a.S → x ≠ a.R := fun hx e => hx (e ▸ .tail _ (.tail _ (.head _)))
  refine ⟨⟨⟨o, kvs, old h1 n3, h2.1, ⟨h2.2.len, h2.2.text, h2.2.name, h2.2.begin, h2.2.marked, h2.2.number, h2.2.tokens, h2.2.faults⟩⟩, ⟨ws, vs ++ [v], k2, k + 1, tl ++ tv, old q2 n1, setA_new, DatAll.mono (fun p hp => List.mem_append.mpr (.inl hp)) q4, ?_, fun p hp => ?_⟩, L.ne⟩, Kp.set (.tail _ (.tail _ (.head _)))⟩
  · exact (DatAll.mono (fun p hp => List.mem_append.mpr (.inl hp)) q3).append (.one (DatIn.mono (fun p hp => List.mem_append.mpr (.inr hp)) v2))
  · rcases List.mem_append.mp hp with hp | hp
    · exact ⟨old (q5 p hp).1 (out (q5 p hp).2.1), (q5 p hp).2⟩
    · exact ⟨old (v1 p hp).1 (out (v1 p hp).2.1), (v1 p hp).2⟩
section
variable {W : Wd} {a : La} {b : Bw} {base g h : Heap} {c : Cx} {sc : Scope} {n : Nat} {m : Str → Option Value} {news : Led} {s : Shared} {tk' : Nat} {E : Value → Shared → Prop} {x : Str} {xp kp pos : Pos} {kk : Nat} {Q : Value → Shared → Prop}
theorem b_get {key : Str} {v : Value} (S : Wk W base c g sc n) (F : Fr g c.L h m) (N : News g c.L h news) (B : BwS W a b news) (k : Lc sc x) (hm : m x = some (.ref a.d))
    (hv : ∀ kvs, BwD a b kvs → valueAt kvs key = some v) (hq : ∀ tk', Q v (st s h tk')) : wpAny W.M c.A (eval (.Subscript (.Name x xp) (.Constant (.str key) kk kp) pos) c.env) Q E (st s h tk') := by
  obtain ⟨o, kvs, h1, h2, h3⟩ := B.dict
  exact PyProof.Rows.Subscript_ (z_local S F k hm (z_str fun t tk₁ => kda_item (s := st s h tk₁) N h1 h2 (strKind_is _ _ _ _) (hv kvs h3) (hq _) (by with_unfolding_all rfl) (by intro _; with_unfolding_all rfl)))
theorem b_getI {key : Str} {v : Value} {t : Tok} (N : News g c.L h news) (B : BwS W a b news) (hv : ∀ kvs, BwD a b kvs → valueAt kvs key = some v) (hq : ∀ tk', Q v (st s h tk')) : wpAny W.M c.A (getItem (.ref a.d) (.str key t)) Q E (st s h tk') := by
  obtain ⟨o, kvs, h1, h2, h3⟩ := B.dict
  exact wpAny_getItem_of (strKind_is _ _ _ _) (kda_dict (s := st s h tk') N h1 h2).mapOf (hv kvs h3) (hq _)
theorem BwS.dat {W : Wd} {a : La} {b : Bw} {news : Led} (B : BwS W a b news) : ∃ kvs, BwD a b kvs := by
  obtain ⟨o, kvs, h1, h2, h3⟩ := B.dict; exact ⟨kvs, h3⟩
theorem b_text (S : Wk W base c g sc n) (F : Fr g c.L h m) (N : News g c.L h news) (B : BwS W a b news) (k : Lc sc x) (hm : m x = some (.ref a.d)) (hq : ∀ t tk', Q (.str (strS b.text) t) (st s h tk')) :
    wpAny W.M c.A (eval (.Subscript (.Name x xp) (.Constant (.str "text") kk kp) pos) c.env) Q E (st s h tk') := by
  obtain ⟨o, kvs, h1, h2, h3⟩ := B.dict
  obtain ⟨t, e⟩ := h3.text
  exact PyProof.Rows.Subscript_ (z_local S F k hm (z_str fun t₁ tk₁ => kda_item (s := st s h tk₁) N h1 h2 (strKind_is _ _ _ _) e (hq _ _) (by with_unfolding_all rfl) (by intro _; with_unfolding_all rfl)))
theorem b_name (S : Wk W base c g sc n) (F : Fr g c.L h m) (N : News g c.L h news) (B : BwS W a b news) (k : Lc sc x) (hm : m x = some (.ref a.d)) (hq : ∀ t tk', Q (.str (strS b.name) t) (st s h tk')) :
    wpAny W.M c.A (eval (.Subscript (.Name x xp) (.Constant (.str "name") kk kp) pos) c.env) Q E (st s h tk') := by
  obtain ⟨o, kvs, h1, h2, h3⟩ := B.dict
  obtain ⟨t, e⟩ := h3.name
  exact PyProof.Rows.Subscript_ (z_local S F k hm (z_str fun t₁ tk₁ => kda_item (s := st s h tk₁) N h1 h2 (strKind_is _ _ _ _) e (hq _ _) (by with_unfolding_all rfl) (by intro _; with_unfolding_all rfl)))
theorem b_begin (S : Wk W base c g sc n) (F : Fr g c.L h m) (N : News g c.L h news) (B : BwS W a b news) (k : Lc sc x) (hm : m x = some (.ref a.d)) (hq : ∀ t tk', Q (.int (b.begin : Nat) t) (st s h tk')) :
    wpAny W.M c.A (eval (.Subscript (.Name x xp) (.Constant (.str "begin") kk kp) pos) c.env) Q E (st s h tk') := by
  obtain ⟨o, kvs, h1, h2, h3⟩ := B.dict
  obtain ⟨t, e⟩ := h3.begin
  exact PyProof.Rows.Subscript_ (z_local S F k hm (z_str fun t₁ tk₁ => kda_item (s := st s h tk₁) N h1 h2 (strKind_is _ _ _ _) e (hq _ _) (by with_unfolding_all rfl) (by intro _; with_unfolding_all rfl)))
theorem b_marked (S : Wk W base c g sc n) (F : Fr g c.L h m) (N : News g c.L h news) (B : BwS W a b news) (k : Lc sc x) (hm : m x = some (.ref a.d)) (hq : ∀ tk', Q (.bool b.marked) (st s h tk')) :
    wpAny W.M c.A (eval (.Subscript (.Name x xp) (.Constant (.str "marked") kk kp) pos) c.env) Q E (st s h tk') := b_get S F N B k hm (fun _ h => h.marked) hq
theorem b_number (S : Wk W base c g sc n) (F : Fr g c.L h m) (N : News g c.L h news) (B : BwS W a b news) (k : Lc sc x) (hm : m x = some (.ref a.d)) (hq : ∀ tk', Q (.bool b.number) (st s h tk')) :
    wpAny W.M c.A (eval (.Subscript (.Name x xp) (.Constant (.str "number") kk kp) pos) c.env) Q E (st s h tk') := b_get S F N B k hm (fun _ h => h.number) hq
theorem b_tokens (S : Wk W base c g sc n) (F : Fr g c.L h m) (N : News g c.L h news) (B : BwS W a b news) (k : Lc sc x) (hm : m x = some (.ref a.d)) (hq : ∀ tk', Q (.ref a.T) (st s h tk')) :
    wpAny W.M c.A (eval (.Subscript (.Name x xp) (.Constant (.str "tokens") kk kp) pos) c.env) Q E (st s h tk') := b_get S F N B k hm (fun _ h => h.tokens) hq
theorem b_faults (S : Wk W base c g sc n) (F : Fr g c.L h m) (N : News g c.L h news) (B : BwS W a b news) (k : Lc sc x) (hm : m x = some (.ref a.d)) (hq : ∀ tk', Q (.ref a.R) (st s h tk')) :
    wpAny W.M c.A (eval (.Subscript (.Name x xp) (.Constant (.str "faults") kk kp) pos) c.env) Q E (st s h tk') := b_get S F N B k hm (fun _ h => h.faults) hq
theorem b_gtext {t : Tok} (N : News g c.L h news) (B : BwS W a b news) (hq : ∀ t tk', Q (.str (strS b.text) t) (st s h tk')) : wpAny W.M c.A (getItem (.ref a.d) (.str "text" t)) Q E (st s h tk') := by
  obtain ⟨o, kvs, h1, h2, h3⟩ := B.dict
  obtain ⟨t, e⟩ := h3.text
  exact wpAny_getItem_of (strKind_is _ _ _ _) (kda_dict (s := st s h tk') N h1 h2).mapOf e (hq _ _)
theorem b_gname {t : Tok} (N : News g c.L h news) (B : BwS W a b news) (hq : ∀ t tk', Q (.str (strS b.name) t) (st s h tk')) : wpAny W.M c.A (getItem (.ref a.d) (.str "name" t)) Q E (st s h tk') := by
  obtain ⟨o, kvs, h1, h2, h3⟩ := B.dict
  obtain ⟨t, e⟩ := h3.name
  exact wpAny_getItem_of (strKind_is _ _ _ _) (kda_dict (s := st s h tk') N h1 h2).mapOf e (hq _ _)
theorem b_set {key : Str} {v : Value} {b' : Bw} {t : Tok} {Q : Unit → Shared → Prop} (F : Fr g c.L h m) (N : News g c.L h news) (B : BwS W a b news) (hd : ∀ kvs, BwD a b kvs → BwD a b' (stored kvs key v)) (ht : b'.toks = b.toks) (hf : b'.flts = b.flts)
    (hq : ∀ h' tk' news', Fr g c.L h' m → News g c.L h' news' → BwS W a b' news' → Kp a.S news news' → Q () (st s h' tk')) : wpAny W.M c.A (setItem (.ref a.d) (.str key t) v) Q E (st s h tk') := by
  obtain ⟨o, kvs, h1, h2, h3⟩ := B.dict
  refine kda_set (s := st s h tk') (g := fun o' => setA a.d o' news) F (news_front N h1) (.head fun p hp => of_decide_eq_true (List.mem_filter.mp hp).2) h2 (strKind_is _ _ _ _) (by have := h3.len; rw [sizeLine_eq]; lia) fun h' o' F' N' ho => ?_
  exact hq h' _ _ F' N' (B.setD ho (hd kvs h3) ht hf) (Kp.set (.head _))
theorem b_setText {x : Cs} {t u : Tok} {Q : Unit → Shared → Prop} (F : Fr g c.L h m) (N : News g c.L h news) (B : BwS W a b news)
    (hq : ∀ h' tk' news', Fr g c.L h' m → News g c.L h' news' → BwS W a (b.tx x) news' → Kp a.S news news' → Q () (st s h' tk')) : wpAny W.M c.A (setItem (.ref a.d) (.str "text" t) (.str (strS x) u)) Q E (st s h tk') := b_set F N B (fun _ h => h.setText) rfl rfl hq
theorem b_setName {x : Cs} {t u : Tok} {Q : Unit → Shared → Prop} (F : Fr g c.L h m) (N : News g c.L h news) (B : BwS W a b news)
    (hq : ∀ h' tk' news', Fr g c.L h' m → News g c.L h' news' → BwS W a (b.nm x) news' → Kp a.S news news' → Q () (st s h' tk')) : wpAny W.M c.A (setItem (.ref a.d) (.str "name" t) (.str (strS x) u)) Q E (st s h tk') := b_set F N B (fun _ h => h.setName) rfl rfl hq
theorem b_setName0 {t u : Tok} {Q : Unit → Shared → Prop} (F : Fr g c.L h m) (N : News g c.L h news) (B : BwS W a b news)
    (hq : ∀ h' tk' news', Fr g c.L h' m → News g c.L h' news' → BwS W a (b.nm []) news' → Kp a.S news news' → Q () (st s h' tk')) : wpAny W.M c.A (setItem (.ref a.d) (.str "name" t) (.str "" u)) Q E (st s h tk') := by
  rw [show ("" : Str) = strS [] from lit_nil]; exact b_setName F N B hq
theorem b_setBegin {x : Nat} {t u : Tok} {Q : Unit → Shared → Prop} (F : Fr g c.L h m) (N : News g c.L h news) (B : BwS W a b news)
    (hq : ∀ h' tk' news', Fr g c.L h' m → News g c.L h' news' → BwS W a (b.bg x) news' → Kp a.S news news' → Q () (st s h' tk')) : wpAny W.M c.A (setItem (.ref a.d) (.str "begin" t) (.int (x : Nat) u)) Q E (st s h tk') := b_set F N B (fun _ h => h.setBegin) rfl rfl hq
theorem b_setMarked {x : Bool} {t : Tok} {Q : Unit → Shared → Prop} (F : Fr g c.L h m) (N : News g c.L h news) (B : BwS W a b news)
    (hq : ∀ h' tk' news', Fr g c.L h' m → News g c.L h' news' → BwS W a (b.mk₂ x) news' → Kp a.S news news' → Q () (st s h' tk')) : wpAny W.M c.A (setItem (.ref a.d) (.str "marked" t) (.bool x)) Q E (st s h tk') := b_set F N B (fun _ h => h.setMarked) rfl rfl hq
theorem b_setNumber {x : Bool} {t : Tok} {Q : Unit → Shared → Prop} (F : Fr g c.L h m) (N : News g c.L h news) (B : BwS W a b news)
    (hq : ∀ h' tk' news', Fr g c.L h' m → News g c.L h' news' → BwS W a (b.nb x) news' → Kp a.S news news' → Q () (st s h' tk')) : wpAny W.M c.A (setItem (.ref a.d) (.str "number" t) (.bool x)) Q E (st s h tk') := b_set F N B (fun _ h => h.setNumber) rfl rfl hq
theorem x_augS {M : Model} {A : Around} {env : Env} {o i value : Expr} {tpos pos : Pos} {op : Operator} {rest : List Stmt} {Q : Flow → Shared → Prop} {s : Shared}
    (h : wpAny M A (eval o env) (fun ov s₁ => wpAny M A (eval i env) (fun iv s₂ => wpAny M A (getItem ov iv) (fun old s₃ =>
          wpAny M A (eval value env) (fun v s₄ => wpAny M A (inplaceOp op old v) (fun new s₅ =>
            wpAny M A (setItem ov iv new) (fun _ s₆ => wpAny M A (execs rest env) Q E s₆) E s₅) E s₄) E s₃) E s₂) E s₁) E s)
    (hi : ∀ ov iv new, augStore i ov iv new = (do holding [new, ov, iv] (setItem ov iv new); release [new, ov, iv] []; pure .next)) :
    wpAny M A (execs (.AugAssign (.Subscript o i tpos) op value pos :: rest) env) Q E s := wpAny_execs_cons (wpAny_AugAssign_SubscriptAny h hi)
theorem b_pushT {v : Value} {d : Dat} (F : Fr g c.L h m) (N : News g c.L h news) (B : BwS W a b news) (hz : b.toks.length ≤ 100000) (hv : Apart a news v d)
    (hq : ∀ h' tk' news', Fr g c.L h' m → News g c.L h' news' → BwS W a (b.pt d) news' → Kp a.S news news' → Q .none (st s h' tk')) : wpAny W.M c.A (call (.builtin "list.append") [.ref a.T, v]) Q E (st s h tk') := by
  obtain ⟨ts, rs, k, k', hT, hR, e1, e2⟩ := B.lens
  refine z_append F N hT (by lia) fun h₂ tk₂ F₂ N₂ => ?_
  obtain ⟨B₂, K₂⟩ := B.pushT N hT hv
  exact hq h₂ tk₂ _ F₂ N₂ B₂ K₂
theorem b_pushR {v : Value} {d : Dat} (F : Fr g c.L h m) (N : News g c.L h news) (B : BwS W a b news) (hz : b.flts.length ≤ 100000) (hv : Apart a news v d)
    (hq : ∀ h' tk' news', Fr g c.L h' m → News g c.L h' news' → BwS W a (b.pr d) news' → Kp a.S news news' → Q .none (st s h' tk')) : wpAny W.M c.A (call (.builtin "list.append") [.ref a.R, v]) Q E (st s h tk') := by
  obtain ⟨ts, rs, k, k', hT, hR, e1, e2⟩ := B.lens
  refine z_append F N hR (by lia) fun h₂ tk₂ F₂ N₂ => ?_
  obtain ⟨B₂, K₂⟩ := B.pushR N hR hv
  exact hq h₂ tk₂ _ F₂ N₂ B₂ K₂
theorem b_appT {pl : Sem Bool} {Q : Value × List Value → Shared → Prop} (N : News g c.L h news) (B : BwS W a b news) (hq : Q (.builtin "list.append", [.ref a.T]) (st s h tk')) : wpAny W.M c.A (getMethod (.ref a.T) "append" pl) Q E (st s h tk') := by
  obtain ⟨ts, rs, k, k', hT, hR, e1, e2⟩ := B.lens
  exact z_mapp N hT hq
theorem b_appR {pl : Sem Bool} {Q : Value × List Value → Shared → Prop} (N : News g c.L h news) (B : BwS W a b news) (hq : Q (.builtin "list.append", [.ref a.R]) (st s h tk')) : wpAny W.M c.A (getMethod (.ref a.R) "append" pl) Q E (st s h tk') := by
  obtain ⟨ts, rs, k, k', hT, hR, e1, e2⟩ := B.lens
  exact z_mapp N hR hq
theorem b_tup {vs : List Value} {ds : List Dat} (F : Fr g c.L h m) (N : News g c.L h news) (B : BwS W a b news) (hd : ∃ tl, (∀ p ∈ tl, p ∈ news ∧ p.1 ∉ a.S ∧ p.2.cls = .type "tuple") ∧ DatAll tl vs ds) (hz : vs.length ≤ 1000)
    (hq : ∀ q h' tk' news', Fr g c.L h' m → News g c.L h' news' → BwS W a b news' → Kp a.S news news' → Apart a news' (.ref q) (.tuple ds) → Q (.ref q) (st s h' tk')) : wpAny W.M c.A (newTuple vs) Q E (st s h tk') :=
  z_tuple F N hz fun q h₁ tk₁ F₁ N₁ hne => hq q h₁ tk₁ _ F₁ N₁ (B.keep fun p hp => .tail _ hp) Kp.push (Apart.tup (B.fresh hne) hd)
end
end Mine
end
section
open PySem PySem.W PySem.Calls PySem.Spec PyProof.Rows
set_option Elab.async false
set_option maxRecDepth 100000
set_option maxHeartbeats 2000000
namespace Mine
theorem lit128 : Str.ofString "\x80" = strS [128] := by decide
theorem lit32 : Str.ofString " " = strS [32] := by decide
section
variable {W : Wd} {A : Ad} {a : La} {b : Bw} {base g h : Heap} {c : Cx} {sc : Scope} {n : Nat} {m : Str → Option Value} {news : Led} {s : Shared} {tk' : Nat} {E : Value → Shared → Prop} {Q : Value → Shared → Prop} {t u : Tok}
theorem t_sub {M : Model} {A : Around} {env : Env} {o i : Expr} {pos : Pos} {Q : Bool → Shared → Prop} {s : Shared}
    (h : wpAny M A (eval (.Subscript o i pos) env) (fun v s₁ => ∃ k, v = .bool k ∧ Q k s₁) E s) : wpAny M A (isTrue (.Subscript o i pos) env (eval (.Subscript o i pos) env)) Q E s :=
  isTrue_plain (wpAny_mono h (fun v s₁ q => by obtain ⟨k, rfl, q⟩ := q; exact wpAny_truthy_bool q) fun _ _ q => q)
theorem z_lt1 {k l : Nat} {y : Str} {A : Around} (hy : y = strS [l]) (hq : Q (.bool (decide (k < l))) (st s h tk')) : wpAny W.M A (compareOp .Lt (.str (strS [k]) t) (.str y u)) Q E (st s h tk') :=
  P.lt_str (by
    have : (decide ((strS [k]).cps.toList < y.cps.toList)) = decide (k < l) := by rw [hy, strS_list, strS_list, one_lt]
    rw [this]; exact hq)
theorem z_iaddL {x p : Cs} {y : Str} {A : Around} (hy : y = strS p) (hl : x.length + p.length ≤ 1000000) (hq : ∀ t tk', Q (.str (strS (x ++ p)) t) (st s h tk')) : wpAny W.M A (inplaceOp .Add (.str (strS x) t) (.str y u)) Q E (st s h tk') := by
  subst hy; exact z_iaddS hl hq
def TxtL (D : Addr) (ws : List Cs) (news : Led) : Prop := ∃ vs n, (D, listOf vs.toArray n) ∈ news ∧ StrsAre vs (ws.map fun y => strS y)
theorem any_strs {ws : List Cs} {x : Cs} : (ws.map fun y => strS y).any (· == strS x) = ws.contains x := by
  induction ws with
  | nil => rfl
  | cons w r ih =>
    rw [List.map_cons, List.any_cons, ih, List.contains_cons]
    congr 1
    by_cases e : w = x
    · subst e; simp
    · rw [beq_eq_false_iff_ne.mpr fun q => e (strS_inj q), beq_eq_false_iff_ne.mpr (Ne.symm e)]
theorem b_inL {D : Addr} {ws : List Cs} {x : Cs} (F : Fr g c.L h m) (N : News g c.L h news) (hD : TxtL D ws news) (hq : Q (.bool (ws.contains x)) (st s h tk')) : wpAny W.M c.A (compareOp .In (.str (strS x) t) (.ref D)) Q E (st s h tk') := by
  obtain ⟨vs, k, h1, h2⟩ := hD
  exact in_list_strs (s := st s h tk') ⟨_, (N _ h1).1, rfl, k, rfl⟩ h2 (by rw [any_strs]; exact hq)
theorem z_split {x y : Str} {ws : List Cs} (F : Fr g c.L h m) (N : News g c.L h news) (hy : (y.length == 0) = false) (hsz : decide (x.length + 2 ≤ 1000000) = true) (e : Txt.split x y = ws.map fun y => strS y)
    (hq : ∀ D h' tk' news', Fr g c.L h' m → News g c.L h' news' → TxtL D ws news' → (∀ p ∈ news, p ∈ news') → Q (.ref D) (st s h' tk')) : wpAny W.M c.A (call (.builtin "str.split") [.str x t, .str y u]) Q E (st s h tk') :=
  KSpl.split1 (s := st s h tk') F N hy (fun D l h' k e' a' F' N' _ => hq D h' k _ F' N' ⟨_, 0, .head _, by rw [← e, ← e']; exact a'⟩ fun p hp => .tail _ hp) (by rw [sizeLine_eq]; have := of_decide_eq_true hsz; lia)
theorem u_split {x y : Str} (F : Fr g c.L h m) (N : News g c.L h news) (B : BwS W a b news) (hy : (y.length == 0) = false) (hsz : decide (x.length + 2 ≤ 1000000) = true) (hy' : y = strS [32]) (e : sp 32 x.cps.toList = nearL)
    (hq : ∀ D h' tk' news', Fr g c.L h' m → News g c.L h' news' → TxtL D nearL news' → (∀ p ∈ news, p ∈ news') → BwS W a b news' → Kp a.S news news' → Q (.ref D) (st s h' tk')) : wpAny W.M c.A (call (.builtin "str.split") [.str x t, .str y u]) Q E (st s h tk') :=
  z_split F N hy hsz (split_one hy' e) fun D h' tk' news' F' N' hD k => hq D h' tk' news' F' N' hD k (B.keep k) (Kp.of k)
theorem z_strT {x : Str} {k : Nat} {pos : Pos} {A : Around} {M : Model} {env : Env} (hq : Q (.str x tk') (st s h (tk' + 1))) : wpAny M A (eval (.Constant (.str x) k pos) env) Q E (st s h tk') := wpAny_Constant_str hq
end
section
variable {W : Wd} {A : Ad} {news : Led}
theorem ct_lawWords (KF : Kf W A) : Ct W A.lawWords [] 1 news (fun r l => (∃ D, r = .ref D ∧ TxtL D wordsL l) ∧ ∀ p ∈ news, p ∈ l) := by
  with_reducible refine enter KF.d_lawWords.fn (fun _ _ _ _ _ _ => by kernel_rfl) (locs (by kernel_rfl)) (by kernel_rfl) (by kernel_rfl) (by kernel_rfl) (of_decide_eq_true (by kernel_rfl)) ?_
  intro c base g m s h tk₀ S F N hm
  clear hm
  show wpAny _ _ (execs (_ :: _) _) _ _ _
  with_reducible refine x_ret ?_
  with_reducible refine PyProof.Rows.MethodCall_ ?_ (by k_dflt exact rfl)
  with_reducible refine PyProof.Rows.MethodCall_ ?_ (by k_dflt exact rfl)
  with_reducible refine z_strT (GM.replace ?_)
  with_reducible refine PyProof.Rows.callWith_method1 ?_ (by k_dflt exact rfl) (by k_dflt exact rfl)
  with_reducible refine z_args (z_strT ?_) (by k_dflt exact rfl)
  with_reducible refine z_args (z_strT ?_) (by k_dflt exact rfl)
  with_reducible refine z_args0 ?_
  refine SC.replace (s := st _ _ _) (Nat.succ_ne_zero _) (Nat.succ_ne_zero _) (Nat.ne_of_lt (Nat.lt_succ_self _)) (by decide +kernel) (by decide +kernel) fun t' k => ?_
  have e1 : ∀ x : Str, joinL 32 (sp 10 x.cps.toList) = joinL 32 wordsL → Txt.replace x (Str.ofString "\n") (Str.ofString " ") = strS (joinL 32 wordsL) := fun x e => by
    rw [show Str.ofString "\n" = strS [10] by decide, lit32, replace_sp, e]
  rw [e1]
  rotate_left
  · decide +kernel
  with_reducible refine GM.split ?_
  with_reducible refine PyProof.Rows.callWith_method1 ?_ (by k_dflt exact rfl) (by k_dflt exact rfl)
  with_reducible refine z_args (z_str fun _ _ => ?_) (by k_dflt exact rfl)
  with_reducible refine z_args0 ?_
  refine z_split (ws := wordsL) (tk' := _) F N (by decide) (by decide +kernel) (split_one lit32 (by rw [strS_list]; decide +kernel)) fun D h' tk' news' F' N' hD hk => ?_
  exact z_done F' N' ⟨⟨D, rfl, hD⟩, hk⟩
end
end Mine
end
section
open PySem PySem.W PySem.Calls PySem.Spec PyProof.Rows
set_option Elab.async false
set_option maxRecDepth 100000
set_option maxHeartbeats 2000000
namespace Mine
section
variable {W : Wd} {A : Ad} {a : La} {b : Bw} {base g h : Heap} {c : Cx} {sc : Scope} {n : Nat} {m : Str → Option Value} {news : Led} {s : Shared} {tk' : Nat} {E : Value → Shared → Prop} {Q : Value → Shared → Prop} {t u : Tok}
theorem u_lawWords (S : Wk W base c g sc n) (F : Fr g c.L h m) (N : News g c.L h news) (KF : Kf W A) (B : BwS W a b news) (hn : 1 ≤ n)
    (hq : ∀ D h' tk' news', Fr g c.L h' m → News g c.L h' news' → TxtL D wordsL news' → (∀ p ∈ news, p ∈ news') → BwS W a b news' → Kp a.S news news' → Q (.ref D) (st s h' tk')) : wpAny W.M c.A (call (.ref A.lawWords) []) Q E (st s h tk') :=
  z_use S F N (ct_lawWords KF) hn fun r l h' tk' F' N' p => by obtain ⟨⟨D, rfl, hD⟩, k⟩ := p; exact hq D h' tk' l F' N' hD k (B.keep k) (Kp.of k)
end
abbrev PcG (W : Wd) (a : La) (X : Bw) (c : Cx) (g : Heap) (s : Shared) (news₀ : Led) (L : List Stmt) (h : Heap) (tk : Nat) : Prop :=
  wpAny W.M c.A (execs L c.env) (Done c g s (fun r l => r = .none ∧ BwS W a X l ∧ Kp a.S news₀ l)) NoE (st s h tk)
structure BwH (W : Wd) (a : La) (b : Bw) (sc : Scope) (n : Nat) (base g h : Heap) (c : Cx) (m : Str → Option Value) (news₀ news : Led) : Prop where
  S : Wk W base c g sc n
  F : Fr g c.L h m
  N : News g c.L h news
  B : BwS W a b news
  K : Kp a.S news₀ news
  w : m ("w" : Str) = some (.ref a.d)
theorem endTok_nw {b : Bw} (hm : (!b.marked) = true) (hw : wordsL.contains b.name = true) : endTok b = tokD 2 (strD b.name) b.begin := by
  unfold endTok isWord; rw [if_pos (by simpa using hm), hw]; rfl
theorem endTok_nn {b : Bw} (hm : (!b.marked) = true) (hw : wordsL.contains b.name = false) : endTok b = tokD 1 (strD b.name) b.begin := by
  unfold endTok isWord; rw [if_pos (by simpa using hm), hw]; rfl
theorem endTok_mw {b : Bw} (hm : (!b.marked) = false) (hw : wordsL.contains b.name = true) : endTok b = tokD 1 (strD (64 :: b.name)) b.begin := by
  unfold endTok isWord isNear; rw [if_neg (by simpa using hm), hw]; rfl
theorem endTok_mn {b : Bw} (hm : (!b.marked) = false) (hw : wordsL.contains b.name = false) (hn : nearL.contains b.name = true) : endTok b = tokD 1 (strD (64 :: b.name)) b.begin := by
  unfold endTok isWord isNear; rw [if_neg (by simpa using hm), hw, hn]; rfl
theorem endTok_m0 {b : Bw} (hm : (!b.marked) = false) (hw : wordsL.contains b.name = false) (hn : nearL.contains b.name = false) : endTok b = tokD 1 (strD b.name) b.begin := by
  unfold endTok isWord isNear; rw [if_neg (by simpa using hm), hw, hn]; rfl
def wN1 (b : Bw) (run : Cs) : Bw := { b with text := b.text ++ run, begin := if b.name = [] ∧ b.marked = false then b.text.length else b.begin, name := b.name ++ run, number := false }
theorem wName_N1 (b : Bw) (run : Cs) : wName b run = wN1 (b.tx (wGap b run)) run := rfl
section
variable {W : Wd} {A : Ad} {a : La} {b : Bw} {base g h : Heap} {c : Cx} {m : Str → Option Value} {news₀ news : Led} {s : Shared} {tk : Nat}
theorem le4 (H : BwH W a b (dScope (defAt 53)) 2 base g h c m news₀ news) : PcG W a ((b.nm []).mk₂ false) c g s news₀ ((dBody (defAt 53)).drop 4) h tk := by
  have S := H.S
  have F := H.F
  have N := H.N
  have B := H.B
  have K₀ := H.K
  have hm_w := H.w
  have kl_w : Lc (dScope (defAt 53)) "w" := ⟨by kernel_rfl, by kernel_rfl⟩
  show wpAny _ _ (execs (_ :: _) _) _ _ _
  with_reducible
   refine x_assignS ?_ (by k_dflt exact rfl)
   refine d_str ?_
   refine z_local ‹_› ‹_› ‹_› (by tb_start) ?_
   refine d_str ?_
   refine b_setName ‹_› ‹_› ‹_› ?_; intro _ _ _ _ _ _ _
   refine x_assignS ?_ (by k_dflt exact rfl)
   refine z_bool ?_
   refine z_local ‹_› ‹_› ‹_› (by tb_start) ?_
   refine d_str ?_
   refine b_setMarked ‹_› ‹_› ‹_› ?_; intro _ _ _ _ _ _ _
   refine x_nil ?_
   refine z_end ‹_› ‹_› ?_
  exact ⟨rfl, by assumption, by lcg_sub⟩
theorem le3 (KF : Kf W A) (H : BwH W a b (dScope (defAt 53)) 2 base g h c m news₀ news) (hz : b.toks.length ≤ 100000) (hnm : b.name.length ≤ 900000) {t : Tok} (hm_name : m ("name" : Str) = some (.str (strS b.name) t)) (hm_plain : m ("plain" : Str) = some (.bool (wordsL.contains b.name))) :
    PcG W a { b with toks := b.toks ++ [endTok b], name := [], marked := false } c g s news₀ ((dBody (defAt 53)).drop 3) h tk := by
  have S := H.S
  have F := H.F
  have N := H.N
  have B := H.B
  have K₀ := H.K
  have hm_w := H.w
  have hn1 : [64].length + b.name.length ≤ 1000000 := Nat.le_trans (Nat.add_le_add (Nat.le_refl 1) hnm) (by decide)
  have kl_w : Lc (dScope (defAt 53)) "w" := ⟨by kernel_rfl, by kernel_rfl⟩
  have kl_name : Lc (dScope (defAt 53)) "name" := ⟨by kernel_rfl, by kernel_rfl⟩
  have kl_plain : Lc (dScope (defAt 53)) "plain" := ⟨by kernel_rfl, by kernel_rfl⟩
  have kg_TK_WORD : Gb (dScope (defAt 53)) "TK_WORD" := ⟨by kernel_rfl, by kernel_rfl⟩
  obtain ⟨ti_TK_WORD, gg_TK_WORD⟩ := KF.i_TK_WORD
  have kg_TK_NAME : Gb (dScope (defAt 53)) "TK_NAME" := ⟨by kernel_rfl, by kernel_rfl⟩
  obtain ⟨ti_TK_NAME, gg_TK_NAME⟩ := KF.i_TK_NAME
  show wpAny _ _ (execs (_ :: (dBody (defAt 53)).drop 4) _) _ _ _
  focus with_reducible
   refine x_if ?_
   refine t_not ?_
   refine t_sub ?_
   refine b_marked ‹_› ‹_› ‹_› ‹_› ‹_› (by tb_start) ?_; intro _
   refine Exists.intro _ (And.intro rfl ?_)
   refine And.intro (fun _ => ?_) (fun _ => ?_)
   refine x_app ?_
   refine z_expr ‹_› ?_ (by k_dflt exact rfl)
   refine PyProof.Rows.MethodCall_ ?_ (by k_dflt exact rfl)
   refine b_tokens ‹_› ‹_› ‹_› ‹_› ‹_› (by tb_start) ?_; intro _
   refine b_appT ‹_› ‹_› ?_
   refine PyProof.Rows.callWith_method1 ?_ (by k_dflt exact rfl) (by k_dflt exact rfl)
   refine z_args ?_ (by k_dflt exact rfl)
   refine PyProof.Rows.Tuple_ ?_
   refine z_args ?_ (by k_dflt exact rfl)
   refine v_ifexp ?_
   refine t_name ?_
   refine z_local ‹_› ‹_› ‹_› (by tb_start) ?_
   refine Exists.intro _ (And.intro rfl ?_)
   refine And.intro (fun _ => ?_) (fun _ => ?_)
   refine z_global ‹_› ‹_› ‹_› ‹_› ?_
   refine z_args ?_ (by k_dflt exact rfl)
   refine z_local ‹_› ‹_› ‹_› (by tb_start) ?_
   refine z_args ?_ (by k_dflt exact rfl)
   refine b_begin ‹_› ‹_› ‹_› ‹_› ‹_› (by tb_start) ?_; intro _ _
   refine z_args0 ?_
   refine b_tup ‹_› ‹_› ‹_› (aparts_cons Apart.int (aparts_cons Apart.str (aparts_cons Apart.int aparts_nil))) (by k_dflt exact Nat.le_of_ble_eq_true rfl) ?_; intro _ _ _ _ _ _ _ _ _
   refine z_args0 ?_
   refine call_app1 ?_
   refine b_pushT ‹_› ‹_› ‹_› ‹_› ‹_› ?_; intro _ _ _ _ _ _ _
   refine x_app0 ?_
   rotate_left
   refine z_global ‹_› ‹_› ‹_› ‹_› ?_
   refine z_args ?_ (by k_dflt exact rfl)
   refine z_local ‹_› ‹_› ‹_› (by tb_start) ?_
   refine z_args ?_ (by k_dflt exact rfl)
   refine b_begin ‹_› ‹_› ‹_› ‹_› ‹_› (by tb_start) ?_; intro _ _
   refine z_args0 ?_
   refine b_tup ‹_› ‹_› ‹_› (aparts_cons Apart.int (aparts_cons Apart.str (aparts_cons Apart.int aparts_nil))) (by k_dflt exact Nat.le_of_ble_eq_true rfl) ?_; intro _ _ _ _ _ _ _ _ _
   refine z_args0 ?_
   refine call_app1 ?_
   refine b_pushT ‹_› ‹_› ‹_› ‹_› ‹_› ?_; intro _ _ _ _ _ _ _
   refine x_app0 ?_
   rotate_left
   refine x_app ?_
   refine x_if ?_
   refine t_or ?_
   refine t_name ?_
   refine z_local ‹_› ‹_› ‹_› (by tb_start) ?_
   refine Exists.intro _ (And.intro rfl ?_)
   refine And.intro (fun _ => ?_) (fun _ => ?_)
   refine both_tt ?_
   refine x_app ?_
   refine z_expr ‹_› ?_ (by k_dflt exact rfl)
   refine PyProof.Rows.MethodCall_ ?_ (by k_dflt exact rfl)
   refine b_tokens ‹_› ‹_› ‹_› ‹_› ‹_› (by tb_start) ?_; intro _
   refine b_appT ‹_› ‹_› ?_
   refine PyProof.Rows.callWith_method1 ?_ (by k_dflt exact rfl) (by k_dflt exact rfl)
   refine z_args ?_ (by k_dflt exact rfl)
   refine PyProof.Rows.Tuple_ ?_
   refine z_args ?_ (by k_dflt exact rfl)
   refine z_global ‹_› ‹_› ‹_› ‹_› ?_
   refine z_args ?_ (by k_dflt exact rfl)
   refine PySem.wpAny_BinOp ?_
   refine d_str ?_
   refine z_local ‹_› ‹_› ‹_› (by tb_start) ?_
   refine d_addSL lit64 (by first | with_reducible assumption | lia) ?_
   refine z_args ?_ (by k_dflt exact rfl)
   refine b_begin ‹_› ‹_› ‹_› ‹_› ‹_› (by tb_start) ?_; intro _ _
   refine z_args0 ?_
   refine b_tup ‹_› ‹_› ‹_› (aparts_cons Apart.int (aparts_cons Apart.str (aparts_cons Apart.int aparts_nil))) (by k_dflt exact Nat.le_of_ble_eq_true rfl) ?_; intro _ _ _ _ _ _ _ _ _
   refine z_args0 ?_
   refine call_app1 ?_
   refine b_pushT ‹_› ‹_› ‹_› ‹_› ‹_› ?_; intro _ _ _ _ _ _ _
   refine x_app0 ?_
   refine x_app0 ?_
   rotate_left
   refine t_or ?_
   refine t_cmp ?_
   refine z_local ‹_› ‹_› ‹_› (by tb_start) ?_
   refine PyProof.Rows.MethodCall_ ?_ (by k_dflt exact rfl)
   refine d_str ?_
   refine GM.split ?_
   refine PyProof.Rows.callWith_method1 ?_ (by k_dflt exact rfl) (by k_dflt exact rfl)
   refine z_args ?_ (by k_dflt exact rfl)
   refine d_str ?_
   refine z_args0 ?_
   refine call_app1 ?_
   refine u_split ‹_› ‹_› ‹_› (by k_dflt decide +kernel) (by k_dflt decide +kernel) lit32 (by k_dflt decide +kernel) ?_; intro _ _ _ _ _ _ _ _ _ _
   refine b_inL ‹_› ‹_› ‹_› ?_
   refine Exists.intro _ (And.intro rfl ?_)
   refine And.intro (fun _ => ?_) (fun _ => ?_)
   refine both_tt ?_
   refine x_app ?_
   refine z_expr ‹_› ?_ (by k_dflt exact rfl)
   refine PyProof.Rows.MethodCall_ ?_ (by k_dflt exact rfl)
   refine b_tokens ‹_› ‹_› ‹_› ‹_› ‹_› (by tb_start) ?_; intro _
   refine b_appT ‹_› ‹_› ?_
   refine PyProof.Rows.callWith_method1 ?_ (by k_dflt exact rfl) (by k_dflt exact rfl)
   refine z_args ?_ (by k_dflt exact rfl)
   refine PyProof.Rows.Tuple_ ?_
   refine z_args ?_ (by k_dflt exact rfl)
   refine z_global ‹_› ‹_› ‹_› ‹_› ?_
   refine z_args ?_ (by k_dflt exact rfl)
   refine PySem.wpAny_BinOp ?_
   refine d_str ?_
   refine z_local ‹_› ‹_› ‹_› (by tb_start) ?_
   refine d_addSL lit64 (by first | with_reducible assumption | lia) ?_
   refine z_args ?_ (by k_dflt exact rfl)
   refine b_begin ‹_› ‹_› ‹_› ‹_› ‹_› (by tb_start) ?_; intro _ _
   refine z_args0 ?_
   refine b_tup ‹_› ‹_› ‹_› (aparts_cons Apart.int (aparts_cons Apart.str (aparts_cons Apart.int aparts_nil))) (by k_dflt exact Nat.le_of_ble_eq_true rfl) ?_; intro _ _ _ _ _ _ _ _ _
   refine z_args0 ?_
   refine call_app1 ?_
   refine b_pushT ‹_› ‹_› ‹_› ‹_› ‹_› ?_; intro _ _ _ _ _ _ _
   refine x_app0 ?_
   refine x_app0 ?_
   rotate_left
   refine PyProof.Rows.isTrue_or_nil ?_
   refine both_ff ?_
   refine x_app ?_
   refine z_expr ‹_› ?_ (by k_dflt exact rfl)
   refine PyProof.Rows.MethodCall_ ?_ (by k_dflt exact rfl)
   refine b_tokens ‹_› ‹_› ‹_› ‹_› ‹_› (by tb_start) ?_; intro _
   refine b_appT ‹_› ‹_› ?_
   refine PyProof.Rows.callWith_method1 ?_ (by k_dflt exact rfl) (by k_dflt exact rfl)
   refine z_args ?_ (by k_dflt exact rfl)
   refine PyProof.Rows.Tuple_ ?_
   refine z_args ?_ (by k_dflt exact rfl)
   refine z_global ‹_› ‹_› ‹_› ‹_› ?_
   refine z_args ?_ (by k_dflt exact rfl)
   refine z_local ‹_› ‹_› ‹_› (by tb_start) ?_
   refine z_args ?_ (by k_dflt exact rfl)
   refine b_begin ‹_› ‹_› ‹_› ‹_› ‹_› (by tb_start) ?_; intro _ _
   refine z_args0 ?_
   refine b_tup ‹_› ‹_› ‹_› (aparts_cons Apart.int (aparts_cons Apart.str (aparts_cons Apart.int aparts_nil))) (by k_dflt exact Nat.le_of_ble_eq_true rfl) ?_; intro _ _ _ _ _ _ _ _ _
   refine z_args0 ?_
   refine call_app1 ?_
   refine b_pushT ‹_› ‹_› ‹_› ‹_› ‹_› ?_; intro _ _ _ _ _ _ _
   refine x_app0 ?_
   refine x_app0 ?_
   rotate_left
  · rw [endTok_nw ‹(!b.marked) = true› ‹wordsL.contains b.name = true›]
    exact le4 (b := b.pt (tokD 2 (strD b.name) b.begin)) ⟨S, by assumption, by assumption, by assumption, by lcg_sub, hm_w⟩
  · rw [endTok_nn ‹(!b.marked) = true› ‹wordsL.contains b.name = false›]
    exact le4 (b := b.pt (tokD 1 (strD b.name) b.begin)) ⟨S, by assumption, by assumption, by assumption, by lcg_sub, hm_w⟩
  · rw [endTok_mw ‹(!b.marked) = false› ‹wordsL.contains b.name = true›]
    exact le4 (b := b.pt (tokD 1 (strD (64 :: b.name)) b.begin)) ⟨S, by assumption, by assumption, by assumption, by lcg_sub, hm_w⟩
  · rw [endTok_mn ‹(!b.marked) = false› ‹wordsL.contains b.name = false› ‹nearL.contains b.name = true›]
    exact le4 (b := b.pt (tokD 1 (strD (64 :: b.name)) b.begin)) ⟨S, by assumption, by assumption, by assumption, by lcg_sub, hm_w⟩
  · rw [endTok_m0 ‹(!b.marked) = false› ‹wordsL.contains b.name = false› ‹nearL.contains b.name = false›]
    exact le4 (b := b.pt (tokD 1 (strD b.name) b.begin)) ⟨S, by assumption, by assumption, by assumption, by lcg_sub, hm_w⟩
theorem ct_lawEnd (KF : Kf W A) (B : BwS W a b news) (hz : b.toks.length ≤ 100000) (hnm : b.name.length ≤ 900000) : Ct W A.lawEnd [.ref a.d] 3 news (fun r l => r = .none ∧ BwS W a (wEnd b) l ∧ Kp a.S news l) := by
  with_reducible refine enter KF.d_lawEnd.fn (fun _ _ _ _ _ _ => by kernel_rfl) (locs (by kernel_rfl)) (by kernel_rfl) (by kernel_rfl) (by kernel_rfl) (of_decide_eq_true (by kernel_rfl)) ?_
  intro c base g m s h tk₀ S F N hm
  have hm_w : m ("w" : Str) = some _ := (hm _).trans rfl
  clear hm
  have kl_w : Lc (dScope (defAt 53)) "w" := ⟨by kernel_rfl, by kernel_rfl⟩
  have kl_name : Lc (dScope (defAt 53)) "name" := ⟨by kernel_rfl, by kernel_rfl⟩
  have kl_plain : Lc (dScope (defAt 53)) "plain" := ⟨by kernel_rfl, by kernel_rfl⟩
  have kg_law_words : Gb (dScope (defAt 53)) "_law_words" := ⟨by kernel_rfl, by kernel_rfl⟩
  have kk_law_words := KF.d_lawWords.keep
  have gg_law_words := KF.g_lawWords
  show wpAny _ _ (execs (_ :: _ :: _ :: (dBody (defAt 53)).drop 3) _) _ _ _
  focus with_reducible
   refine x_assign ?_ (by k_dflt exact rfl)
   refine b_name ‹_› ‹_› ‹_› ‹_› ‹_› (by tb_start) ?_; intro _ _
   refine z_store ‹_› ‹_› ‹_› ‹_› ?_; intro _ _ _ _
   refine x_if ?_
   refine t_cmpS ‹_› ‹_› ‹_› (by tb_start) ?_ (by with_unfolding_all rfl)
   refine z_eqSL lit_nil ?_
   refine Exists.intro _ (And.intro rfl ?_)
   refine And.intro (fun _ => ?_) (fun _ => ?_)
   refine x_app ?_
   refine x_ret0 ?_
   refine z_done ‹_› ‹_› ?_
   rotate_left
   refine x_app0 ?_
   refine x_assign ?_ (by k_dflt exact rfl)
   refine v_cmp ?_
   refine z_local ‹_› ‹_› ‹_› (by tb_start) ?_
   refine v_call ?_
   refine z_global ‹_› ‹_› ‹_› ‹_› ?_
   refine z_call0 ‹_› ‹_› ‹_› ?_
   refine u_lawWords ‹_› ‹_› ‹_› ‹_› ‹_› (by k_dflt decide) ?_; intro _ _ _ _ _ _ _ _ _ _
   refine b_inL ‹_› ‹_› ‹_› ?_
   refine z_store ‹_› ‹_› ‹_› ‹_› ?_; intro _ _ _ _
   rotate_left
  · rw [show wEnd b = b from if_pos (of_decide_eq_true ‹decide (b.name = []) = true›)]
    exact ⟨rfl, B, Kp.refl⟩
  · rw [show wEnd b = _ from if_neg (of_decide_eq_false ‹decide (b.name = []) = false›)]
    exact le3 KF ⟨S, by assumption, by assumption, by assumption, by lcg_sub, by tb_start⟩ hz hnm (by tb_start) (by tb_start)
theorem nm2 {run : Cs} {t : Tok} (H : BwH W a b (dScope (defAt 54)) 0 base g h c m news₀ news) (hm_run : m ("run" : Str) = some (.str (strS run) t)) (x4 : b.text.length + run.length ≤ 1000000) (hnl : b.name.length + run.length ≤ 1000000) :
    PcG W a (((b.nm (b.name ++ run)).tx (b.text ++ run)).nb false) c g s news₀ ((dBody (defAt 54)).drop 2) h tk := by
  have S := H.S
  have F := H.F
  have N := H.N
  have B := H.B
  have K₀ := H.K
  have hm_w := H.w
  have kl_w : Lc (dScope (defAt 54)) "w" := ⟨by kernel_rfl, by kernel_rfl⟩
  have kl_run : Lc (dScope (defAt 54)) "run" := ⟨by kernel_rfl, by kernel_rfl⟩
  show wpAny _ _ (execs (_ :: _) _) _ _ _
  with_reducible
   refine x_augS ?_ (by k_dflt (intros; rfl))
   refine z_local ‹_› ‹_› ‹_› (by tb_start) ?_
   refine d_str ?_
   refine b_gname ‹_› ‹_› ?_; intro _ _
   refine z_local ‹_› ‹_› ‹_› (by tb_start) ?_
   refine d_iaddS (by first | with_reducible assumption | lia) ?_
   refine b_setName ‹_› ‹_› ‹_› ?_; intro _ _ _ _ _ _ _
   refine x_augS ?_ (by k_dflt (intros; rfl))
   refine z_local ‹_› ‹_› ‹_› (by tb_start) ?_
   refine d_str ?_
   refine b_gtext ‹_› ‹_› ?_; intro _ _
   refine z_local ‹_› ‹_› ‹_› (by tb_start) ?_
   refine d_iaddS (by first | with_reducible assumption | lia) ?_
   refine b_setText ‹_› ‹_› ‹_› ?_; intro _ _ _ _ _ _ _
   refine x_assignS ?_ (by k_dflt exact rfl)
   refine z_bool ?_
   refine z_local ‹_› ‹_› ‹_› (by tb_start) ?_
   refine d_str ?_
   refine b_setNumber ‹_› ‹_› ‹_› ?_; intro _ _ _ _ _ _ _
   refine x_nil ?_
   refine z_end ‹_› ‹_› ?_
  exact ⟨rfl, by assumption, by lcg_sub⟩
theorem nm1 {run : Cs} {t : Tok} (KF : Kf W A) (H : BwH W a b (dScope (defAt 54)) 0 base g h c m news₀ news) (hm_run : m ("run" : Str) = some (.str (strS run) t)) (x4 : b.text.length + run.length ≤ 1000000) (x5 : b.text.length ≤ 100000) (hnl : b.name.length + run.length ≤ 1000000) :
    PcG W a (wN1 b run) c g s news₀ ((dBody (defAt 54)).drop 1) h tk := by
  have S := H.S
  have F := H.F
  have N := H.N
  have B := H.B
  have K₀ := H.K
  have hm_w := H.w
  have kl_w : Lc (dScope (defAt 54)) "w" := ⟨by kernel_rfl, by kernel_rfl⟩
  have kl_run : Lc (dScope (defAt 54)) "run" := ⟨by kernel_rfl, by kernel_rfl⟩
  have kg_len : Gb (dScope (defAt 54)) "len" := ⟨by kernel_rfl, by kernel_rfl⟩
  show wpAny _ _ (execs (_ :: (dBody (defAt 54)).drop 2) _) _ _ _
  focus with_reducible
   refine x_if ?_
   refine t_and ?_
   refine t_cmp ?_
   refine b_name ‹_› ‹_› ‹_› ‹_› ‹_› (by tb_start) ?_; intro _ _
   refine d_str ?_
   refine z_eqSL lit_nil ?_
   refine Exists.intro _ (And.intro rfl ?_)
   refine And.intro (fun _ => ?_) (fun _ => ?_)
   refine t_and ?_
   refine t_not ?_
   refine t_sub ?_
   refine b_marked ‹_› ‹_› ‹_› ‹_› ‹_› (by tb_start) ?_; intro _
   refine Exists.intro _ (And.intro rfl ?_)
   refine And.intro (fun _ => ?_) (fun _ => ?_)
   refine PyProof.Rows.isTrue_and_nil ?_
   refine both_tt ?_
   refine x_app ?_
   refine x_assignS ?_ (by k_dflt exact rfl)
   refine e_built ‹_› ‹_› ‹_› (Kf.b_len ‹_›) boot_len (by decide) ?_ (by k_dflt exact rfl)
   refine b_text ‹_› ‹_› ‹_› ‹_› ‹_› (by tb_start) ?_; intro _ _
   refine d_len ‹_› ?_
   refine z_local ‹_› ‹_› ‹_› (by tb_start) ?_
   refine d_str ?_
   refine b_setBegin ‹_› ‹_› ‹_› ?_; intro _ _ _ _ _ _ _
   refine x_app0 ?_
   rotate_left
   refine both_ff ?_
   refine x_app0 ?_
   rotate_left
   refine both_ff ?_
   refine x_app0 ?_
   rotate_left
  · rw [show wN1 b run = (((b.bg b.text.length).nm (b.name ++ run)).tx (b.text ++ run)).nb false by
      unfold wN1
      rw [if_pos ⟨of_decide_eq_true ‹decide (b.name = []) = true›, by simpa using ‹(!b.marked) = true›⟩]]
    exact nm2 (b := b.bg b.text.length) ⟨S, by assumption, by assumption, by assumption, by lcg_sub, hm_w⟩ hm_run x4 hnl
  · rw [show wN1 b run = ((b.nm (b.name ++ run)).tx (b.text ++ run)).nb false by
      unfold wN1
      rw [if_neg fun q => absurd ‹(!b.marked) = false› (by rw [q.2]; decide)]]
    exact nm2 (b := b) ⟨S, by assumption, by assumption, by assumption, by lcg_sub, hm_w⟩ hm_run x4 hnl
  · rw [show wN1 b run = ((b.nm (b.name ++ run)).tx (b.text ++ run)).nb false by
      unfold wN1
      rw [if_neg fun q => of_decide_eq_false ‹decide (b.name = []) = false› q.1]]
    exact nm2 (b := b) ⟨S, by assumption, by assumption, by assumption, by lcg_sub, hm_w⟩ hm_run x4 hnl
theorem ct_lawName (KF : Kf W A) (B : BwS W a b news) {run : Cs} {t : Tok} {e : Nat} (hr : run[0]? = some e) (hrl : run.length ≤ 100000) (hxl : b.text.length + run.length + 1 ≤ 100000) (hnl : b.name.length + run.length ≤ 1000000) :
    Ct W A.lawName [.ref a.d, .str (strS run) t] 1 news (fun r l => r = .none ∧ BwS W a (wName b run) l ∧ Kp a.S news l) := by
  have hd : run.headD 0 = e := by
    cases run with
    | nil => cases hr
    | cons x r => exact Option.some.inj hr
  have x1 : b.text.length + ([32] : Cs).length ≤ 1000000 := by simp only [List.length_cons, List.length_nil]; lia
  have x2 : (b.text ++ [32]).length + run.length ≤ 1000000 := by simp only [List.length_append, List.length_cons, List.length_nil]; lia
  have x3 : (b.text ++ [32]).length ≤ 100000 := by simp only [List.length_append, List.length_cons, List.length_nil]; lia
  have x4 : b.text.length + run.length ≤ 1000000 := by lia
  have x5 : b.text.length ≤ 100000 := by lia
  rw [wName_N1]
  with_reducible refine enter KF.d_lawName.fn (fun _ _ _ _ _ _ => by kernel_rfl) (locs (by kernel_rfl)) (by kernel_rfl) (by kernel_rfl) (by kernel_rfl) (of_decide_eq_true (by kernel_rfl)) ?_
  intro c base g m s h tk₀ S F N hm
  have hm_w : m ("w" : Str) = some _ := (hm _).trans rfl
  have hm_run : m ("run" : Str) = some _ := (hm _).trans rfl
  clear hm
  have kl_w : Lc (dScope (defAt 54)) "w" := ⟨by kernel_rfl, by kernel_rfl⟩
  have kl_run : Lc (dScope (defAt 54)) "run" := ⟨by kernel_rfl, by kernel_rfl⟩
  show wpAny _ _ (execs (_ :: (dBody (defAt 54)).drop 1) _) _ _ _
  focus with_reducible
   refine x_if ?_
   refine t_and ?_
   refine t_sub ?_
   refine b_number ‹_› ‹_› ‹_› ‹_› ‹_› (by tb_start) ?_; intro _
   refine Exists.intro _ (And.intro rfl ?_)
   refine And.intro (fun _ => ?_) (fun _ => ?_)
   refine t_and ?_
   refine t_cmp ?_
   refine PyProof.Rows.Subscript_ ?_
   refine z_local ‹_› ‹_› ‹_› (by tb_start) ?_
   refine d_num ?_
   refine d_item ‹_› ‹_› ?_ (by with_unfolding_all rfl)
   refine d_str ?_
   refine z_lt1 lit128 ?_
   refine Exists.intro _ (And.intro rfl ?_)
   refine And.intro (fun _ => ?_) (fun _ => ?_)
   refine PyProof.Rows.isTrue_and_nil ?_
   refine both_tt ?_
   refine x_app ?_
   refine x_augS ?_ (by k_dflt (intros; rfl))
   refine z_local ‹_› ‹_› ‹_› (by tb_start) ?_
   refine d_str ?_
   refine b_gtext ‹_› ‹_› ?_; intro _ _
   refine d_str ?_
   refine d_iaddL lit32 (by first | with_reducible assumption | lia) ?_
   refine b_setText ‹_› ‹_› ‹_› ?_; intro _ _ _ _ _ _ _
   refine x_app0 ?_
   rotate_left
   refine both_ff ?_
   refine x_app0 ?_
   rotate_left
   refine both_ff ?_
   refine x_app0 ?_
   rotate_left
  · rw [show wGap b run = b.text ++ [32] by unfold wGap; rw [hd, if_pos ⟨‹b.number = true›, of_decide_eq_true ‹decide (e < 128) = true›⟩]]
    exact nm1 KF ⟨S, by assumption, by assumption, by assumption, by lcg_sub, hm_w⟩ hm_run x2 x3 hnl
  · rw [show wGap b run = b.text by unfold wGap; rw [hd, if_neg fun q => of_decide_eq_false ‹decide (e < 128) = false› q.2]]
    exact nm1 KF ⟨S, by assumption, by assumption, B, by lcg_sub, hm_w⟩ hm_run x4 x5 hnl
  · rw [show wGap b run = b.text by unfold wGap; rw [if_neg fun q => absurd ‹b.number = false› (by rw [q.1]; decide)]]
    exact nm1 KF ⟨S, by assumption, by assumption, B, by lcg_sub, hm_w⟩ hm_run x4 x5 hnl
end
end Mine
end
section
open PySem PySem.W PySem.Calls PySem.Spec PyProof.Rows
set_option Elab.async false
set_option maxRecDepth 100000
set_option maxHeartbeats 2000000
namespace Mine
section
variable {W : Wd} {A : Ad} {a : La} {b : Bw} {base g h : Heap} {c : Cx} {sc : Scope} {n : Nat} {m : Str → Option Value} {news : Led} {s : Shared} {tk' : Nat} {E : Value → Shared → Prop} {Q : Value → Shared → Prop} {t u : Tok}
theorem u_lawName {run : Cs} {e : Nat} (S : Wk W base c g sc n) (F : Fr g c.L h m) (N : News g c.L h news) (KF : Kf W A) (B : BwS W a b news) (hr : run[0]? = some e) (hrl : run.length ≤ 100000) (hxl : b.text.length + run.length + 1 ≤ 100000) (hnl : b.name.length + run.length ≤ 1000000) (hn : 1 ≤ n)
    (hq : ∀ h' tk' news', Fr g c.L h' m → News g c.L h' news' → BwS W a (wName b run) news' → Kp a.S news news' → Q .none (st s h' tk')) : wpAny W.M c.A (call (.ref A.lawName) [.ref a.d, .str (strS run) t]) Q E (st s h tk') :=
  z_use S F N (ct_lawName KF B hr hrl hxl hnl) hn fun r l h' tk' F' N' p => by obtain ⟨rfl, B', K'⟩ := p; exact hq h' tk' l F' N' B' K'
end
section
variable {W : Wd} {A : Ad} {a : La} {b : Bw} {base g h : Heap} {c : Cx} {m : Str → Option Value} {news₀ news : Led} {s : Shared} {tk : Nat}
theorem ln2 (KF : Kf W A) {d : Cs} {v : Int} {t u : Tok} (H : BwH W a b (dScope (defAt 55)) 1 base g h c m news₀ news) (hm_digits : m ("digits" : Str) = some (.str (strS d) t)) (hm_value : m ("value" : Str) = some (.int v u)) (x4 : b.text.length + d.length ≤ 1000000) (x5 : b.text.length ≤ 100000) (hz : b.toks.length ≤ 100000) :
    PcG W a (((b.pt (tokD 3 (.tuple [.int v, strD []]) b.text.length)).tx (b.text ++ d)).nb true) c g s news₀ ((dBody (defAt 55)).drop 2) h tk := by
  have S := H.S
  have F := H.F
  have N := H.N
  have B := H.B
  have K₀ := H.K
  have hm_w := H.w
  have kl_w : Lc (dScope (defAt 55)) "w" := ⟨by kernel_rfl, by kernel_rfl⟩
  have kl_digits : Lc (dScope (defAt 55)) "digits" := ⟨by kernel_rfl, by kernel_rfl⟩
  have kl_value : Lc (dScope (defAt 55)) "value" := ⟨by kernel_rfl, by kernel_rfl⟩
  have kg_TK_INT : Gb (dScope (defAt 55)) "TK_INT" := ⟨by kernel_rfl, by kernel_rfl⟩
  obtain ⟨ti_TK_INT, gg_TK_INT⟩ := KF.i_TK_INT
  have kg_len : Gb (dScope (defAt 55)) "len" := ⟨by kernel_rfl, by kernel_rfl⟩
  show wpAny _ _ (execs (_ :: _) _) _ _ _
  with_reducible
   refine z_expr ‹_› ?_ (by k_dflt exact rfl)
   refine PyProof.Rows.MethodCall_ ?_ (by k_dflt exact rfl)
   refine b_tokens ‹_› ‹_› ‹_› ‹_› ‹_› (by tb_start) ?_; intro _
   refine b_appT ‹_› ‹_› ?_
   refine PyProof.Rows.callWith_method1 ?_ (by k_dflt exact rfl) (by k_dflt exact rfl)
   refine z_args ?_ (by k_dflt exact rfl)
   refine PyProof.Rows.Tuple_ ?_
   refine z_args ?_ (by k_dflt exact rfl)
   refine z_global ‹_› ‹_› ‹_› ‹_› ?_
   refine z_args ?_ (by k_dflt exact rfl)
   refine PyProof.Rows.Tuple_ ?_
   refine z_args ?_ (by k_dflt exact rfl)
   refine z_local ‹_› ‹_› ‹_› (by tb_start) ?_
   refine z_args ?_ (by k_dflt exact rfl)
   refine d_str ?_
   refine z_args0 ?_
   refine b_tup ‹_› ‹_› ‹_› (aparts_cons Apart.int (aparts_cons Apart.str aparts_nil)) (by k_dflt exact Nat.le_of_ble_eq_true rfl) ?_; intro _ _ _ _ _ _ _ _ _
   refine z_args ?_ (by k_dflt exact rfl)
   refine e_built ‹_› ‹_› ‹_› (Kf.b_len ‹_›) boot_len (by decide) ?_ (by k_dflt exact rfl)
   refine b_text ‹_› ‹_› ‹_› ‹_› ‹_› (by tb_start) ?_; intro _ _
   refine d_len ‹_› ?_
   refine z_args0 ?_
   refine b_tup ‹_› ‹_› ‹_› (aparts_cons Apart.int (aparts_cons ‹_› (aparts_cons Apart.int aparts_nil))) (by k_dflt exact Nat.le_of_ble_eq_true rfl) ?_; intro _ _ _ _ _ _ _ _ _
   refine z_args0 ?_
   refine call_app1 ?_
   refine b_pushT ‹_› ‹_› ‹_› ‹_› ‹_› ?_; intro _ _ _ _ _ _ _
   refine x_augS ?_ (by k_dflt (intros; rfl))
   refine z_local ‹_› ‹_› ‹_› (by tb_start) ?_
   refine d_str ?_
   refine b_gtext ‹_› ‹_› ?_; intro _ _
   refine z_local ‹_› ‹_› ‹_› (by tb_start) ?_
   refine d_iaddS (by first | with_reducible assumption | lia) ?_
   refine b_setText ‹_› ‹_› ‹_› ?_; intro _ _ _ _ _ _ _
   refine x_assignS ?_ (by k_dflt exact rfl)
   refine z_bool ?_
   refine z_local ‹_› ‹_› ‹_› (by tb_start) ?_
   refine d_str ?_
   refine b_setNumber ‹_› ‹_› ‹_› ?_; intro _ _ _ _ _ _ _
   refine x_nil ?_
   refine z_end ‹_› ‹_› ?_
  exact ⟨rfl, by assumption, by lcg_sub⟩
theorem ct_lawNumber (KF : Kf W A) (B : BwS W a b news) {d : Cs} {v : Int} {t u : Tok} {e : Nat} (hr : d[0]? = some e) (hrl : d.length ≤ 100000) (hxl : b.text.length + d.length + 1 ≤ 100000) (hnl : b.name.length + d.length ≤ 1000000) (hz : b.toks.length ≤ 100000) :
    Ct W A.lawNumber [.ref a.d, .str (strS d) t, .int v u] 2 news (fun r l => r = .none ∧ BwS W a (wNumber b d v) l ∧ Kp a.S news l) := by
  have x1 : b.text.length + ([32] : Cs).length ≤ 1000000 := by simp only [List.length_cons, List.length_nil]; lia
  have x2 : (b.text ++ [32]).length + d.length ≤ 1000000 := by simp only [List.length_append, List.length_cons, List.length_nil]; lia
  have x3 : (b.text ++ [32]).length ≤ 100000 := by simp only [List.length_append, List.length_cons, List.length_nil]; lia
  have x4 : b.text.length + d.length ≤ 1000000 := by lia
  have x5 : b.text.length ≤ 100000 := by lia
  with_reducible refine enter KF.d_lawNumber.fn (fun _ _ _ _ _ _ => by kernel_rfl) (locs (by kernel_rfl)) (by kernel_rfl) (by kernel_rfl) (by kernel_rfl) (of_decide_eq_true (by kernel_rfl)) ?_
  intro c base g m s h tk₀ S F N hm
  have hm_w : m ("w" : Str) = some _ := (hm _).trans rfl
  have hm_digits : m ("digits" : Str) = some _ := (hm _).trans rfl
  have hm_value : m ("value" : Str) = some _ := (hm _).trans rfl
  clear hm
  have kl_w : Lc (dScope (defAt 55)) "w" := ⟨by kernel_rfl, by kernel_rfl⟩
  have kl_digits : Lc (dScope (defAt 55)) "digits" := ⟨by kernel_rfl, by kernel_rfl⟩
  have kl_value : Lc (dScope (defAt 55)) "value" := ⟨by kernel_rfl, by kernel_rfl⟩
  have kg_law_name : Gb (dScope (defAt 55)) "_law_name" := ⟨by kernel_rfl, by kernel_rfl⟩
  have kk_law_name := KF.d_lawName.keep
  have gg_law_name := KF.g_lawName
  show wpAny _ _ (execs (_ :: _ :: (dBody (defAt 55)).drop 2) _) _ _ _
  focus with_reducible
   refine x_if ?_
   refine t_cmp ?_
   refine b_name ‹_› ‹_› ‹_› ‹_› ‹_› (by tb_start) ?_; intro _ _
   refine d_str ?_
   refine z_neSL lit_nil ?_
   refine Exists.intro _ (And.intro rfl ?_)
   refine And.intro (fun _ => ?_) (fun _ => ?_)
   refine x_app ?_
   refine z_expr ‹_› ?_ (by k_dflt exact rfl)
   refine e_call2 ‹_› ‹_› ‹_› ‹_› ‹_› ‹_› (by tb_start) ‹_› (by tb_start) ?_
   refine u_lawName ‹_› ‹_› ‹_› ‹_› ‹_› ‹_› ‹_› ‹_› ‹_› (by k_dflt decide) ?_; intro _ _ _ _ _ _ _
   refine x_app ?_
   refine x_ret0 ?_
   refine z_done ‹_› ‹_› ?_
   rotate_left
   refine x_app0 ?_
   refine x_if ?_
   refine t_sub ?_
   refine b_number ‹_› ‹_› ‹_› ‹_› ‹_› (by tb_start) ?_; intro _
   refine Exists.intro _ (And.intro rfl ?_)
   refine And.intro (fun _ => ?_) (fun _ => ?_)
   refine x_app ?_
   refine x_augS ?_ (by k_dflt (intros; rfl))
   refine z_local ‹_› ‹_› ‹_› (by tb_start) ?_
   refine d_str ?_
   refine b_gtext ‹_› ‹_› ?_; intro _ _
   refine d_str ?_
   refine d_iaddL lit32 (by first | with_reducible assumption | lia) ?_
   refine b_setText ‹_› ‹_› ‹_› ?_; intro _ _ _ _ _ _ _
   refine x_app0 ?_
   rotate_left
   refine x_app0 ?_
   rotate_left
  · rw [show wNumber b d v = wName b d from if_pos (by simpa using ‹(!decide (b.name = [])) = true›)]
    exact ⟨rfl, by assumption, by lcg_sub⟩
  · rw [show wNumber b d v = ((((b.tx (b.text ++ [32])).pt (tokD 3 (.tuple [.int v, strD []]) (b.text ++ [32]).length)).tx (b.text ++ [32] ++ d)).nb true) by
      unfold wNumber; rw [if_neg (by simpa using ‹(!decide (b.name = [])) = false›), if_pos ‹b.number = true›]]
    exact ln2 KF ⟨S, by assumption, by assumption, by assumption, by lcg_sub, hm_w⟩ hm_digits hm_value x2 x3 hz
  · rw [show wNumber b d v = (((b.pt (tokD 3 (.tuple [.int v, strD []]) b.text.length)).tx (b.text ++ d)).nb true) by
      unfold wNumber; rw [if_neg (by simpa using ‹(!decide (b.name = [])) = false›), if_neg (by rw [‹b.number = false›]; decide)]]
    exact ln2 KF ⟨S, by assumption, by assumption, B, by lcg_sub, hm_w⟩ hm_digits hm_value x4 x5 hz
end
def IntsAt (ax : Addr) (ns : Cs) (news : Led) : Prop := ∃ vs, IntsAre vs (ns.map fun (k : Nat) => (k : Int)) ∧ ((∃ n, (ax, listOf vs.toArray n) ∈ news) ∨ (ax, tupOf vs) ∈ news)
theorem IntsAt.kp {ax : Addr} {ns : Cs} {news news' : Led} {S : List Addr} (h : IntsAt ax ns news) (k : Kp S news news') (hn : ax ∉ S) : IntsAt ax ns news' := by
  obtain ⟨vs, h1, h2⟩ := h
  refine ⟨vs, h1, ?_⟩
  rcases h2 with ⟨n, h2⟩ | h2
  · exact .inl ⟨n, k _ h2 hn⟩
  · exact .inr (k _ h2 hn)
section
variable {W : Wd} {base g h : Heap} {c : Cx} {sc : Scope} {n : Nat} {m : Str → Option Value} {news : Led} {s : Shared} {tk : Nat} {rest body : List Stmt} {Q : Flow → Shared → Prop} {x : Str} {px pos : Pos}
theorem for_ints {ax : Addr} {ns : Cs} {S' : List Addr} (J : Nat → (Str → Option Value) → Led → Prop) (S : Wk W base c g sc n) (kx : Lc sc x) (F : Fr g c.L h m) (N : News g c.L h news) (H : IntsAt ax ns news) (hax : ax ∉ S') (hj : J 0 m news)
    (hJ : ∀ i m l, J i m l → Kp S' news l)
    (turn : ∀ i k t h tk m' l I oI, ns[i]? = some k → (∀ p ∈ news, p.1 ≠ I) → oI.cls ≠ .type "tuple" → Fr g c.L h (upd m' x (.int (k : Nat) t)) → News g c.L h ((I, oI) :: l) → (∀ p ∈ l, p.1 ≠ I) → J i m' l → wpAny W.M c.A (execs body c.env) (ForE W c g s I oI J i rest Q) NoE (st s h tk))
    (done : ∀ h tk m' l, Fr g c.L h m' → News g c.L h l → J ns.length m' l → wpAny W.M c.A (execs rest c.env) Q NoE (st s h tk)) :
    wpAny W.M c.A (pyIter (.ref ax)) (fun iv s₂ => ForK W c (.Name x px) iv body rest Q s₂) NoE (st s h tk) := by
  obtain ⟨vs, h1, h2⟩ := H
  have hlen : vs.length = ns.length := by rw [h1.length, List.length_map]
  have turn' : ∀ i v h tk m' l I oI, vs[i]? = some v → (∀ p ∈ news, p.1 ≠ I) → oI.cls ≠ .type "tuple" → Fr g c.L h (upd m' x v) → News g c.L h ((I, oI) :: l) → (∀ p ∈ l, p.1 ≠ I) → J i m' l → wpAny W.M c.A (execs body c.env) (ForE W c g s I oI J i rest Q) NoE (st s h tk) := by
    intro i v h tk m' l I oI hv hf hc F' N' hl hj'
    obtain ⟨k, t, rfl, hk⟩ := IntsAre.at h1 i v hv
    rw [List.getElem?_map] at hk
    cases hns : ns[i]? with
    | none => rw [hns] at hk; cases hk
    | some q =>
      rw [hns] at hk
      cases hk
      exact turn i q t h tk m' l I oI hns hf hc F' N' hl hj'
  rcases h2 with ⟨k, h2⟩ | h2
  · exact for_list J S kx F N h2 hj (fun i m l q => hJ i m l q _ h2 hax) turn' (by rw [hlen]; exact done)
  · exact for_tup J S kx F N h2 hj (fun i m l q => hJ i m l q _ h2 hax) turn' (by rw [hlen]; exact done)
end
theorem BwS.turn {W : Wd} {a : La} {b : Bw} {l' l'' : Led} {I Lf : Addr} {oI : Obj} {g h : Heap} (N' : News g Lf h l') (B' : BwS W a b l') (hI : I ∉ a.S) (hm : (I, oI) ∈ l') (hc : oI.cls ≠ .type "tuple") (k : ∀ p ∈ l', p.1 ≠ I → p ∈ l'') : BwS W a b l'' := by
  refine B'.kp (S := [I]) (fun p hp hn => k p hp fun e => hn (e ▸ .head _)) ?_ ?_ ?_ ?_
  · intro q; exact hI (List.mem_singleton.mp q ▸ .head _)
  · intro q; exact hI (List.mem_singleton.mp q ▸ .tail _ (.head _))
  · intro q; exact hI (List.mem_singleton.mp q ▸ .tail _ (.tail _ (.head _)))
  · intro p hp hcls q
    have e := List.mem_singleton.mp q
    obtain ⟨p1, p2⟩ := p
    have e' : p1 = I := e
    subst e'
    have := news_eq N' hp hm
    subst this
    exact hc hcls
theorem codes_len : ∀ (codes : Cs) (b : Bw), (codes.foldl wCode b).text.length = b.text.length + codes.length ∧ (codes.foldl wCode b).flts.length = b.flts.length + codes.length
  | [], b => ⟨rfl, rfl⟩
  | k :: r, b => by
    have := codes_len r (wCode b k)
    rw [List.foldl_cons, this.1, this.2]
    constructor
    · show (b.text ++ [k]).length + r.length = _
      simp only [List.length_append, List.length_cons, List.length_nil]; lia
    · show (b.flts ++ [_]).length + r.length = _
      simp only [List.length_append, List.length_cons, List.length_nil]; lia
theorem wEnd_len (b : Bw) : (wEnd b).text = b.text ∧ (wEnd b).flts = b.flts ∧ (wEnd b).toks.length ≤ b.toks.length + 1 ∧ (wEnd b).name = [] := by
  unfold wEnd
  split
  · exact ⟨rfl, rfl, Nat.le_succ _, by assumption⟩
  · exact ⟨rfl, rfl, by simp, rfl⟩
section
variable {W : Wd} {A : Ad} {a : La} {b : Bw} {base g h : Heap} {c : Cx} {sc : Scope} {n : Nat} {m : Str → Option Value} {news : Led} {s : Shared} {tk' : Nat} {E : Value → Shared → Prop} {Q : Value → Shared → Prop} {t u : Tok}
theorem u_lawEnd (S : Wk W base c g sc n) (F : Fr g c.L h m) (N : News g c.L h news) (KF : Kf W A) (B : BwS W a b news) (hz : b.toks.length ≤ 100000) (hnm : b.name.length ≤ 900000) (hn : 3 ≤ n)
    (hq : ∀ h' tk' news', Fr g c.L h' m → News g c.L h' news' → BwS W a (wEnd b) news' → Kp a.S news news' → Q .none (st s h' tk')) : wpAny W.M c.A (call (.ref A.lawEnd) [.ref a.d]) Q E (st s h tk') :=
  z_use S F N (ct_lawEnd KF B hz hnm) hn fun r l h' tk' F' N' p => by obtain ⟨rfl, B', K'⟩ := p; exact hq h' tk' l F' N' B' K'
theorem u_lawNumber {d : Cs} {v : Int} {e : Nat} (S : Wk W base c g sc n) (F : Fr g c.L h m) (N : News g c.L h news) (KF : Kf W A) (B : BwS W a b news) (hr : d[0]? = some e) (hrl : d.length ≤ 100000) (hxl : b.text.length + d.length + 1 ≤ 100000) (hnl : b.name.length + d.length ≤ 1000000) (hz : b.toks.length ≤ 100000) (hn : 2 ≤ n)
    (hq : ∀ h' tk' news', Fr g c.L h' m → News g c.L h' news' → BwS W a (wNumber b d v) news' → Kp a.S news news' → Q .none (st s h' tk')) : wpAny W.M c.A (call (.ref A.lawNumber) [.ref a.d, .str (strS d) t, .int v u]) Q E (st s h tk') :=
  z_use S F N (ct_lawNumber KF B hr hrl hxl hnl hz) hn fun r l h' tk' F' N' p => by obtain ⟨rfl, B', K'⟩ := p; exact hq h' tk' l F' N' B' K'
end
section
variable {W : Wd} {A : Ad} {a : La} {b : Bw} {news : Led}
theorem ct_lawStrange (KF : Kf W A) (B : BwS W a b news) {ax : Addr} {codes : Cs} (H : IntsAt ax codes news) (hax : ax ∉ a.S) (hc : ∀ k ∈ codes, k < 1114112) (hz : b.toks.length ≤ 100000) (hnm : b.name.length ≤ 900000)
    (hxl : b.text.length + codes.length ≤ 100000) (hfl : b.flts.length + codes.length ≤ 100000) :
    Ct W A.lawStrange [.ref a.d, .ref ax] 4 news (fun r l => r = .none ∧ BwS W a (wStrange b codes) l ∧ Kp a.S news l) := by
  obtain ⟨q1, q2, q3, q4⟩ := wEnd_len b
  with_reducible refine enter KF.d_lawStrange.fn (fun _ _ _ _ _ _ => by kernel_rfl) (locs (by kernel_rfl)) (by kernel_rfl) (by kernel_rfl) (by kernel_rfl) (of_decide_eq_true (by kernel_rfl)) ?_
  intro c base g m s h tk₀ S F N hm
  have hm_w : m ("w" : Str) = some _ := (hm _).trans rfl
  have hm_codes : m ("codes" : Str) = some _ := (hm _).trans rfl
  clear hm
  have kl_w : Lc (dScope (defAt 56)) "w" := ⟨by kernel_rfl, by kernel_rfl⟩
  have kl_codes : Lc (dScope (defAt 56)) "codes" := ⟨by kernel_rfl, by kernel_rfl⟩
  have kl_code : Lc (dScope (defAt 56)) "code" := ⟨by kernel_rfl, by kernel_rfl⟩
  have kg_law_end : Gb (dScope (defAt 56)) "_law_end" := ⟨by kernel_rfl, by kernel_rfl⟩
  have kk_law_end := KF.d_lawEnd.keep
  have gg_law_end := KF.g_lawEnd
  have kg_chr : Gb (dScope (defAt 56)) "chr" := ⟨by kernel_rfl, by kernel_rfl⟩
  have kg_len : Gb (dScope (defAt 56)) "len" := ⟨by kernel_rfl, by kernel_rfl⟩
  show wpAny _ _ (execs (_ :: _) _) _ _ _
  with_reducible
   refine z_expr ‹_› ?_ (by k_dflt exact rfl)
   refine e_call1 ‹_› ‹_› ‹_› ‹_› ‹_› ‹_› (by tb_start) ?_
   refine u_lawEnd ‹_› ‹_› ‹_› ‹_› ‹_› ‹_› ‹_› (by k_dflt decide) ?_; intro _ _ _ _ _ _ _
   refine x_assignS ?_ (by k_dflt exact rfl)
   refine z_bool ?_
   refine z_local ‹_› ‹_› ‹_› (by tb_start) ?_
   refine d_str ?_
   refine b_setNumber ‹_› ‹_› ‹_› ?_; intro _ _ _ _ _ _ _
  with_reducible refine x_for ?_ (fun _ => by with_unfolding_all rfl)
  with_reducible refine z_local ‹_› ‹_› ‹_› (by tb_start) ?_
  rename_i h₁ tk₁ news₁ F₁ N₁ B₁ K₁ h₂ tk₂ news₂ F₂ N₂ B₂ K₂
  have hK₂ : Kp a.S news news₂ := K₁.trans K₂
  have H₂ : IntsAt ax codes news₂ := H.kp hK₂ hax
  have B₂' : BwS W a { wEnd b with number := false } news₂ := B₂
  generalize hb : ({ wEnd b with number := false } : Bw) = b₁ at B₂'
  have t1 : b₁.text = b.text := by rw [← hb]; exact q1
  have t2 : b₁.flts = b.flts := by rw [← hb]; exact q2
  have hfin : wStrange b codes = codes.foldl wCode b₁ := by rw [← hb]; rfl
  rw [hfin]
  clear B B₁ B₂ K₁ K₂ N₁ F₁ hb hfin
  with_reducible refine for_ints (fun i m' l => m' ("w" : Str) = some (.ref a.d) ∧ BwS W a ((codes.take i).foldl wCode b₁) l ∧ Kp a.S news₂ l) S (by assumption) F₂ N₂ H₂ hax ?_ ?_ ?_ ?_
  · exact ⟨by tb_start, B₂', Kp.refl⟩
  · exact fun i m' l q => q.2.2
  · rintro i k t₃ h₃ tk₃ m₃ l₃ I oI hk hf₃ hcI F₃ N₃ hfr ⟨hm, B₃, K₃⟩
    have hkc : k < 1114112 := hc k (List.mem_of_getElem? hk)
    have hil : i < codes.length := (List.getElem?_eq_some_iff.mp hk).1
    have hst : (codes.take (i + 1)).foldl wCode b₁ = wCode ((codes.take i).foldl wCode b₁) k := by
      rw [List.take_succ_eq_append_getElem hil, (List.getElem?_eq_some_iff.mp hk).2, List.foldl_append]; rfl
    obtain ⟨c1, c2⟩ := codes_len (codes.take i) b₁
    rw [t1] at c1
    rw [t2] at c2
    have hti : (codes.take i).length = i := by rw [List.length_take]; lia
    rw [hti] at c1 c2
    have hI : I ∉ a.S := B₃.fresh hfr
    have B₄ : BwS W a ((codes.take i).foldl wCode b₁) ((I, oI) :: l₃) := B₃.keep fun p hp => .tail _ hp
    generalize hb : (codes.take i).foldl wCode b₁ = bi at B₃ B₄ c1 c2 hst
    have y1 : bi.text.length ≤ 100000 := by lia
    have y2 : bi.flts.length ≤ 100000 := by lia
    have y3 : bi.text.length + ([k] : Cs).length ≤ 1000000 := by simp only [List.length_cons, List.length_nil]; lia
    clear hm_w B₃ B₂' hm_codes
    with_reducible
     refine z_expr ‹_› ?_ (by k_dflt exact rfl)
     refine PyProof.Rows.MethodCall_ ?_ (by k_dflt exact rfl)
     refine b_faults ‹_› ‹_› ‹_› ‹_› ‹_› (by tb_start) ?_; intro _
     refine b_appR ‹_› ‹_› ?_
     refine PyProof.Rows.callWith_method1 ?_ (by k_dflt exact rfl) (by k_dflt exact rfl)
     refine z_args ?_ (by k_dflt exact rfl)
     refine PyProof.Rows.Tuple_ ?_
     refine z_args ?_ (by k_dflt exact rfl)
     refine d_num ?_
     refine z_args ?_ (by k_dflt exact rfl)
     refine e_built ‹_› ‹_› ‹_› (Kf.b_len ‹_›) boot_len (by decide) ?_ (by k_dflt exact rfl)
     refine b_text ‹_› ‹_› ‹_› ‹_› ‹_› (by tb_start) ?_; intro _ _
     refine d_len ‹_› ?_
     refine z_args ?_ (by k_dflt exact rfl)
     refine PyProof.Rows.Tuple_ ?_
     refine z_args ?_ (by k_dflt exact rfl)
     refine e_built ‹_› ‹_› ‹_› (Kf.b_chr ‹_›) boot_chr (by decide) ?_ (by k_dflt exact rfl)
     refine z_local ‹_› ‹_› ‹_› (by tb_start) ?_
     refine d_chr (by first | with_reducible assumption | lia) ?_
     refine z_args0 ?_
     refine b_tup ‹_› ‹_› ‹_› (aparts_cons Apart.str aparts_nil) (by k_dflt exact Nat.le_of_ble_eq_true rfl) ?_; intro _ _ _ _ _ _ _ _ _
     refine z_args0 ?_
     refine b_tup ‹_› ‹_› ‹_› (aparts_cons Apart.int (aparts_cons Apart.int (aparts_cons ‹_› aparts_nil))) (by k_dflt exact Nat.le_of_ble_eq_true rfl) ?_; intro _ _ _ _ _ _ _ _ _
     refine z_args0 ?_
     refine call_app1 ?_
     refine b_pushR ‹_› ‹_› ‹_› ‹_› ‹_› ?_; intro _ _ _ _ _ _ _
     refine x_augS ?_ (by k_dflt (intros; rfl))
     refine z_local ‹_› ‹_› ‹_› (by tb_start) ?_
     refine d_str ?_
     refine b_gtext ‹_› ‹_› ?_; intro _ _
     refine e_built ‹_› ‹_› ‹_› (Kf.b_chr ‹_›) boot_chr (by decide) ?_ (by k_dflt exact rfl)
     refine z_local ‹_› ‹_› ‹_› (by tb_start) ?_
     refine d_chr (by first | with_reducible assumption | lia) ?_
     refine d_iaddS (by first | with_reducible assumption | lia) ?_
     refine b_setText ‹_› ‹_› ‹_› ?_; intro _ _ _ _ _ _ _
     refine x_nil ?_
    rename_i l₅ F₅ N₅ B₅ K₅
    have KK : Kp a.S ((I, oI) :: l₃) l₅ := by lcg_sub
    have hmI : (I, oI) ∈ l₅ := KK _ (.head _) hI
    with_reducible refine for_next F₅ N₅ hmI fun l'' hl'' => ?_
    refine ⟨by tb_start, by rw [hst]; exact B₅.turn N₅ hI hmI hcI hl'', fun p hp hn => hl'' p (KK p (.tail _ (K₃ p hp hn)) hn) (hf₃ p hp)⟩
  · rintro h₃ tk₃ m₃ l₃ F₃ N₃ ⟨hm, B₃, K₃⟩
    rw [List.take_length] at B₃
    with_reducible
     refine x_nil ?_
     refine z_end ‹_› ‹_› ?_
    exact ⟨rfl, B₃, hK₂.trans K₃⟩
end
end Mine
end
section
open PySem PySem.W PySem.Calls PySem.Spec PyProof.Rows
set_option Elab.async false
set_option maxRecDepth 100000
set_option maxHeartbeats 2000000
namespace Mine
abbrev asI (ns : Cs) : List Int := ns.map fun (k : Nat) => (k : Int)
def TI (W : Wd) (ax : Addr) (ns : Cs) (news : Led) : Prop := TupF W ax ns ∨ ∃ vs, IntsAre vs (asI ns) ∧ (ax, tupOf vs) ∈ news
theorem TI.k {W : Wd} {ax : Addr} {ns : Cs} {news : Led} (h : TupF W ax ns) : TI W ax ns news := .inl h
theorem TI.sub {W : Wd} {ax : Addr} {ns : Cs} {news news' : Led} (h : TI W ax ns news) (k : ∀ p ∈ news, p ∈ news') : TI W ax ns news' := by
  rcases h with h | ⟨vs, h1, h2⟩
  · exact .inl h
  · exact .inr ⟨vs, h1, k _ h2⟩
theorem TI.kp {W : Wd} {ax : Addr} {ns : Cs} {news news' : Led} {S : List Addr} (h : TI W ax ns news) (k : Kp S news news') (hn : ax ∉ S) : TI W ax ns news' := by
  rcases h with h | ⟨vs, h1, h2⟩
  · exact .inl h
  · exact .inr ⟨vs, h1, k _ h2 hn⟩
theorem int_get {vs : List Value} {ns : Cs} {i k : Nat} (h : IntsAre vs (asI ns)) (hi : ns[i]? = some k) : ∃ t, vs[i]? = some (.int (k : Nat) t) :=
  IntsAre.get h i (k : Int) (by rw [List.getElem?_map, hi]; rfl)
theorem seq_idx {i n : Nat} (h : i < n) : seqIndex? (i : Int) n = some i := by
  unfold seqIndex?
  simp only [show ¬ ((i : Int) < 0) by lia, if_false]
  rw [if_pos (by simp only [Bool.and_eq_true, decide_eq_true_eq]; lia)]
  simp
section
variable {W : Wd} {base g h : Heap} {c : Cx} {sc : Scope} {n : Nat} {m : Str → Option Value} {news : Led} {s : Shared} {tk' : Nat} {E : Value → Shared → Prop} {Q : Value → Shared → Prop} {t u : Tok} {ax bx : Addr} {ns ms : Cs}
theorem TI.at_ (S : Wk W base c g sc n) (F : Fr g c.L h m) (N : News g c.L h news) (H : TI W ax ns news) : ∃ l k, IsT h ax l.toArray k ∧ IntsAre l (asI ns) := by
  rcases H with ⟨l, k, h1, h2⟩ | ⟨vs, h1, h2⟩
  · exact ⟨l, k, (S.G.X.keeps F.keep) _ _ h1, h2⟩
  · exact ⟨vs, 0, (N _ h2).1, h1⟩
theorem TI.atK (S : Wk W base c g sc n) (F : Fr g c.L h m) (H : TupF W ax ns) : ∃ l k, IsT h ax l.toArray k ∧ IntsAre l (asI ns) := by
  obtain ⟨l, k, h1, h2⟩ := H
  exact ⟨l, k, (S.G.X.keeps F.keep) _ _ h1, h2⟩
theorem isT_tup {l : List Value} {k : Nat} (h' : IsT h ax l.toArray k) : IsTup h ax l.toArray := ⟨_, h', rfl, k, rfl⟩
theorem k_item {value slice : Expr} {i k : Nat} (S : Wk W base c g sc n) (F : Fr g c.L h m) (N : News g c.L h news) (H : TI W ax ns news) (hi : ns[i]? = some k) (hb : i < 1000000) (hq : ∀ t tk', Q (.int (k : Nat) t) (st s h tk'))
    (hs : subscripted slice false (.ref ax) (.int (i : Nat) u) = operate [.ref ax, .int (i : Nat) u] (getItem (.ref ax) (.int (i : Nat) u))) (hg : ∀ r, letTemporaryGo value (.ref ax) r = pure ()) :
    wpAny W.M c.A (subscriptTail value slice (.ref ax) (.int (i : Nat) u)) Q E (st s h tk') := by
  obtain ⟨l, j, h1, h2⟩ := H.at_ S F N
  obtain ⟨t, ht⟩ := int_get h2 hi
  exact item_tupleL (s := st s h tk') (isT_tup h1) (by lia) (by lia) (seq_idx (List.getElem?_eq_some_iff.mp ht).1) ht (hq t tk') hs hg
theorem k_itemV {value slice : Expr} {i : Nat} {vs : List Value} {v : Value} (N : News g c.L h news) (H : (ax, tupOf vs) ∈ news) (hi : vs[i]? = some v) (hb : i < 1000000) (hq : ∀ tk', Q v (st s h tk'))
    (hs : subscripted slice false (.ref ax) (.int (i : Nat) u) = operate [.ref ax, .int (i : Nat) u] (getItem (.ref ax) (.int (i : Nat) u))) (hg : ∀ r, letTemporaryGo value (.ref ax) r = pure ()) :
    wpAny W.M c.A (subscriptTail value slice (.ref ax) (.int (i : Nat) u)) Q E (st s h tk') :=
  item_tupleL (s := st s h tk') (N.isTup H) (by lia) (by lia) (seq_idx (List.getElem?_eq_some_iff.mp hi).1) hi (hq tk') hs hg
theorem k_cat (S : Wk W base c g sc n) (F : Fr g c.L h m) (N : News g c.L h news) (H : TI W ax ns news) (K : TI W bx ms news) (hsz : ns.length + ms.length ≤ 100000)
    (hq : ∀ q h' tk' news', Fr g c.L h' m → News g c.L h' news' → TI W q (ns ++ ms) news' → (∀ p ∈ news, p ∈ news') → (q = ax ∨ q = bx ∨ ∀ p ∈ news, p.1 ≠ q) → Q (.ref q) (st s h' tk')) :
    wpAny W.M c.A (binaryOp .Add (.ref ax) (.ref bx)) Q E (st s h tk') := by
  obtain ⟨l1, k1, a1, a2⟩ := H.at_ S F N
  obtain ⟨l2, k2, b1, b2⟩ := K.at_ S F N
  have e1 : l1.length = ns.length := by rw [a2.length, List.length_map]
  have e2 : l2.length = ms.length := by rw [b2.length, List.length_map]
  by_cases h1 : ns = []
  · subst h1
    have z1 : l1 = [] := List.eq_nil_of_length_eq_zero e1
    subst z1
    refine concat_meets (s := st s h tk') ⟨_, a1, rfl⟩ ⟨_, b1, rfl⟩ noFill_tuple_add seq_tuple_add PySem.F.slot_tuple_add PySem.F.entry_tuple_add (PySem.F.args_tuple_add_2 _ _) (PySem.AutoSeq1.tuple___add___tuple_tuple_0 ax _ k1 bx _ k2 rfl) ⟨a1, b1, ?_⟩
    exact hq bx h tk' news F N (by simpa using K) (fun _ hp => hp) (.inr (.inl rfl))
  · have n1 : ¬ l1.toArray.isEmpty = true := by
      intro q
      apply h1
      have : l1 = [] := by simpa using q
      rw [this] at e1
      exact List.eq_nil_of_length_eq_zero e1.symm
    by_cases h2 : ms = []
    · subst h2
      have z1 : l2 = [] := List.eq_nil_of_length_eq_zero e2
      subst z1
      refine concat_meets (s := st s h tk') ⟨_, a1, rfl⟩ ⟨_, b1, rfl⟩ noFill_tuple_add seq_tuple_add PySem.F.slot_tuple_add PySem.F.entry_tuple_add (PySem.F.args_tuple_add_2 _ _) (PySem.AutoSeq1.tuple___add___tuple_tuple_1 ax _ k1 bx _ k2 n1 rfl) ⟨a1, b1, ?_⟩
      exact hq ax h tk' news F N (by simpa using H) (fun _ hp => hp) (.inl rfl)
    · have n2 : ¬ l2.toArray.isEmpty = true := by
        intro q
        apply h2
        have : l2 = [] := by simpa using q
        rw [this] at e2
        exact List.eq_nil_of_length_eq_zero e2.symm
      refine PySem.P.add_tuple (s := st s h tk') a1 b1 n1 n2 ?_ (by simp only [List.size_toArray]; rw [sizeLine_eq]; lia)
      have N' := N.push F (tupOf (l1 ++ l2))
      have F' := F.push (tupOf (l1 ++ l2))
      have fr : ∀ p ∈ news, p.1 ≠ h.objs.size := fun p hp => Nat.ne_of_lt (Heap.lt_size (N p hp).1)
      have := hq h.objs.size (h.push (tupOf (l1 ++ l2))) tk' _ F' N' (.inr ⟨l1 ++ l2, by unfold asI; rw [List.map_append]; exact a2.append b2, .head _⟩) (fun _ hp => .tail _ hp) (.inr (.inr fr))
      simpa [tupOf] using this
end
end Mine
end
section
open PySem PySem.W PySem.Calls PySem.Spec PyProof.Rows
set_option Elab.async false
set_option maxRecDepth 100000
set_option maxHeartbeats 2000000
namespace Mine
section
variable {prog : Program} {w : World} {A : Around} {E : Value → Shared → Prop} {s : Shared}
theorem gi_whole {t sl : Addr} {items : Array Value} {u : Tok} {Q : Value → Shared → Prop} (ht : IsTup s.heap t items) (hs : s.heap.IsSliceOf sl (.int ((0 : Nat) : Int) u) .none .none) (h : Q (.ref t) s) : wpAny (model prog w) A (getItem (.ref t) (.ref sl)) Q E s := by
  obtain ⟨os, hos, hcs, hds⟩ := id hs
  have hTs : s.TypeIs (.ref sl) "slice" := ⟨os, hos, hcs⟩
  unfold getItem
  try with_reducible refine wpAny_holding ?_
  first | refine wpAny_bind (wpAny_pure ?_) | skip
  refine wpAny_bind (wpAny_sequenceKey ht.typeIs (by decide) ?_)
  refine wpAny_bind (wpAny_callSpecial?_slot (name := Str.ofString "__getitem__") ht.typeIs slot_tuple_getitem
    (wpAny_call_entry slot_tuple_getitem ht.typeIs entry_tuple_getitem ?_ (args_tuple_getitem _ _)))
  show wpAny _ _ (Builtin.Tuple.tupleItemsOf (.ref t) >>= _) _ _ s
  refine wpAny_bind (tupleItemsOf_ ht ?_)
  refine wpAny_bind (wpAny_typeOf hTs ?_)
  rw [if_pos (by decide)]
  refine wpAny_bind (sliceApplied_from hs (Nat.zero_le _) ?_)
  show wpAny _ _ (if (((0 : Nat) : Int) == 0 && (1 : Int) == 1 && (items.size - 0) == items.size) = true then _ else _) _ _ s
  rw [if_pos (by simp)]
  refine wpAny_bind (m := Builtin.Tuple.tupleIsExact _) (wpAny_bind (wpAny_typeOf ht.typeIs (wpAny_pure ?_)))
  rw [if_pos (by decide)]
  exact wpAny_bind (wpAny_rule (wpAny_pure ⟨_, rfl, wpAny_pure h⟩))
theorem adjust_upto (b n : Nat) (ha : b ≤ n) : Builtin.Slice.sliceAdjust none (some (b : Int)) 1 (n : Int) = (0, (b : Int)) := by
  unfold Builtin.Slice.sliceAdjust
  have h1 : ¬ ((1 : Int) < 0) := by lia
  have h2 : ¬ ((b : Int) < 0) := by lia
  simp only [h1, h2, if_false]
  congr 1
  lia
theorem places_upto (b : Nat) : Builtin.Slice.slicePlaces 0 (b : Int) 1 = b := by
  unfold Builtin.Slice.slicePlaces
  have h1 : (1 : Int) > 0 := by lia
  simp only [h1, if_true, Int.ediv_one]
  split <;> lia
theorem sliceApplied_upto {sl : Addr} {b n : Nat} {u : Tok} {Q : Int × Int × Nat → Shared → Prop} (hs : s.heap.IsSliceOf sl .none (.int (b : Nat) u) .none) (ha : b ≤ n) (h : Q (0, 1, b) s) :
    wpAny (model prog w) A (Builtin.Slice.sliceApplied (.ref sl) (pure (n : Int))) Q E s := by
  obtain ⟨os, hos, hcs, hds⟩ := id hs
  unfold Builtin.Slice.sliceApplied Builtin.Slice.sliceFields
  refine wpAny_bind (wpAny_bind (wpAny_field hos hds (x := .none) rfl (wpAny_bind (wpAny_field hos hds (x := .int (b : Nat) u) rfl (wpAny_bind (wpAny_field hos hds (x := .none) rfl (wpAny_pure ?_)))))))
  refine wpAny_bind (slicePart_none ?_)
  show wpAny _ _ (if ((1 : Int) == 0) = true then _ else _) _ _ s
  rw [if_neg (by decide)]
  refine wpAny_bind (slicePart_none (wpAny_bind (slicePart_int (wpAny_bind (wpAny_pure ?_)))))
  show wpAny _ _ (match Builtin.Slice.sliceAdjust none (some (b : Int)) 1 (n : Int) with | (lo, hi) => pure (lo, (1 : Int), Builtin.Slice.slicePlaces lo hi 1)) _ _ s
  rw [adjust_upto b n ha]
  show wpAny _ _ (pure ((0 : Int), (1 : Int), Builtin.Slice.slicePlaces 0 (b : Int) 1)) _ _ s
  rw [places_upto]
  exact wpAny_pure h
theorem pick_upto (xs : Array Value) (b : Nat) : ((List.range b).filterMap fun (k : Nat) => xs[((0 : Int) + (k : Int) * 1).toNat]?).toArray = (xs.toList.take b).toArray := by
  have e : (fun (k : Nat) => xs[((0 : Int) + (k : Int) * 1).toNat]?) = fun k => xs[0 + k]? := by
    funext k
    have : ((0 : Int) + (k : Int) * 1).toNat = 0 + k := by lia
    rw [this]
  rw [e]
  have := pick_run xs 0 b
  rw [List.filterMap_map] at this
  have e2 : ((fun x => xs[x]?) ∘ fun x => 0 + x) = fun k => xs[0 + k]? := rfl
  rw [e2] at this
  rw [this]; simp
theorem gi_upto {t sl : Addr} {items : Array Value} {b : Nat} {u : Tok} {Q : Value → Shared → Prop} (ht : IsTup s.heap t items) (hs : s.heap.IsSliceOf sl .none (.int (b : Nat) u) .none) (ha : b < items.size)
    (h : Q (.ref s.heap.objs.size) { s with heap := s.heap.push { cls := .type "tuple", data := .seq (items.toList.take b).toArray } })
    (hsz : items.size ≤ sizeLine) : wpAny (model prog w) A (getItem (.ref t) (.ref sl)) Q E s := by
  have hdrop : sizeOk (.seq (items.toList.take b).toArray) := by
    show (items.toList.take b).toArray.size ≤ sizeLine
    rw [List.size_toArray, List.length_take, Array.length_toList]
    lia
  obtain ⟨os, hos, hcs, hds⟩ := id hs
  have hTs : s.TypeIs (.ref sl) "slice" := ⟨os, hos, hcs⟩
  unfold getItem
  try with_reducible refine wpAny_holding ?_
  first | refine wpAny_bind (wpAny_pure ?_) | skip
  refine wpAny_bind (wpAny_sequenceKey ht.typeIs (by decide) ?_)
  refine wpAny_bind (wpAny_callSpecial?_slot (name := Str.ofString "__getitem__") ht.typeIs slot_tuple_getitem
    (wpAny_call_entry slot_tuple_getitem ht.typeIs entry_tuple_getitem ?_ (args_tuple_getitem _ _)))
  show wpAny _ _ (Builtin.Tuple.tupleItemsOf (.ref t) >>= _) _ _ s
  refine wpAny_bind (tupleItemsOf_ ht ?_)
  refine wpAny_bind (wpAny_typeOf hTs ?_)
  rw [if_pos (by decide)]
  refine wpAny_bind (sliceApplied_upto hs (Nat.le_of_lt ha) ?_)
  have hno : ¬ (((0 : Int) == 0 && (1 : Int) == 1 && b == items.size) = true) := by
    have : (b == items.size) = false := by rw [beq_eq_false_iff_ne]; lia
    rw [this]; simp
  show wpAny _ _ (if ((0 : Int) == 0 && (1 : Int) == 1 && b == items.size) = true then _ else _) _ _ s
  rw [if_neg hno, pick_upto items b]
  first
    | exact wpAny_bind (m := Builtin.Tuple.tupleExact _) (wpAny_newObj_type (wpAny_pure ⟨_, rfl, wpAny_pure h⟩) hdrop)
    | exact wpAny_bind (m := Builtin.Tuple.tupleExact _) (wpAny_newObj_type (wpAny_bind (wpAny_pure (wpAny_pure ⟨_, rfl, wpAny_pure h⟩))) hdrop)
    | exact wpAny_bind (wpAny_bind (m := Builtin.Tuple.tupleExact _) (wpAny_newObj_type (wpAny_pure (wpAny_pure ⟨_, rfl, wpAny_pure h⟩)) hdrop))
    | exact wpAny_bind (wpAny_bind (m := Builtin.Tuple.tupleExact _) (wpAny_newObj_type (wpAny_pure ⟨_, rfl, wpAny_pure h⟩) hdrop))
end
section
variable {W : Wd} {base g h : Heap} {c : Cx} {sc : Scope} {n : Nat} {m : Str → Option Value} {news : Led} {s : Shared} {tk' : Nat} {E : Value → Shared → Prop} {Q : Value → Shared → Prop} {t u : Tok} {ax bx : Addr} {ns ms : Cs}
theorem asI_drop {l : List Value} {ns : Cs} (h : IntsAre l (asI ns)) (i : Nat) : IntsAre (l.drop i) (asI (ns.drop i)) := by
  have := h.drop i
  rwa [← List.map_drop] at this
theorem asI_take {l : List Value} {ns : Cs} (h : IntsAre l (asI ns)) (i : Nat) : IntsAre (l.take i) (asI (ns.take i)) := by
  have := h.take i
  rwa [← List.map_take] at this
theorem k_from {value slice : Expr} {i : Nat} (S : Wk W base c g sc n) (F : Fr g c.L h m) (N : News g c.L h news) (H : TI W ax ns news) (hi : i ≤ ns.length) (hsz : ns.length ≤ 100000)
    (hs : subscripted slice false (.ref ax) (.ref h.objs.size) = operate [.ref h.objs.size, .ref ax] (getItem (.ref ax) (.ref h.objs.size)))
    (hg : ∀ r, letTemporaryGo value (.ref ax) r = pure ())
    (hq : ∀ q h' tk' news', Fr g c.L h' m → News g c.L h' news' → TI W q (ns.drop i) news' → (∀ p ∈ news, p ∈ news') → (q = ax ∨ ∀ p ∈ news, p.1 ≠ q) → Q (.ref q) (st s h' tk')) :
    wpAny W.M c.A (subscriptTail value slice (.ref ax) (.ref h.objs.size)) Q E (st s (h.push (sliceOb (.int (i : Nat) u) .none)) tk') := by
  obtain ⟨l, j, h1, h2⟩ := H.at_ S F N
  have e1 : l.length = ns.length := by rw [h2.length, List.length_map]
  by_cases h0 : i = 0
  · subst h0
    have hT : IsTup (h.push (sliceOb (.int ((0 : Nat) : Int) u) .none)) ax l.toArray := (isT_tup h1).push _
    refine subscriptTail_ops (s := st s (h.push (sliceOb (.int ((0 : Nat) : Int) u) .none)) tk') (IsTup.typeIs (s := st s (h.push (sliceOb (.int ((0 : Nat) : Int) u) .none)) tk') hT) slot_tuple_getitem.lookup (gi_whole hT (Heap.IsSliceOf.new ..) ?_) hs hg
    have N' : News g c.L (h.push (sliceOb (.int ((0 : Nat) : Int) u) .none)) news := fun p hp => ⟨Heap.get?_push_of_some _ (N p hp).1, (N p hp).2⟩
    exact hq ax _ _ news (F.push _) N' (by simpa using H) (fun _ hp => hp) (.inl rfl)
  · refine slice_tuple_from (s := st s h tk') F N (isT_tup h1) (Nat.pos_of_ne_zero h0) (by rw [List.size_toArray, e1]; exact hi) (fun h' F' N' => ?_) hs hg (by rw [List.size_toArray, e1, sizeLine_eq]; lia)
    have fr : ∀ p ∈ news, p.1 ≠ h.objs.size + 1 := fun p hp => Nat.ne_of_lt (Nat.lt_succ_of_lt (Heap.lt_size (N p hp).1))
    exact hq (h.objs.size + 1) h' _ _ F' N' (.inr ⟨l.drop i, asI_drop h2 i, .head _⟩) (fun _ hp => .tail _ hp) (.inr fr)
theorem k_upto {value slice : Expr} {i : Nat} (S : Wk W base c g sc n) (F : Fr g c.L h m) (N : News g c.L h news) (H : TI W ax ns news) (hi : i < ns.length) (hsz : ns.length ≤ 100000)
    (hs : subscripted slice false (.ref ax) (.ref h.objs.size) = operate [.ref h.objs.size, .ref ax] (getItem (.ref ax) (.ref h.objs.size)))
    (hg : ∀ r, letTemporaryGo value (.ref ax) r = pure ())
    (hq : ∀ q h' tk' news', Fr g c.L h' m → News g c.L h' news' → TI W q (ns.take i) news' → (∀ p ∈ news, p ∈ news') → (∀ p ∈ news, p.1 ≠ q) → Q (.ref q) (st s h' tk')) :
    wpAny W.M c.A (subscriptTail value slice (.ref ax) (.ref h.objs.size)) Q E (st s (h.push (sliceOb .none (.int (i : Nat) u))) tk') := by
  obtain ⟨l, j, h1, h2⟩ := H.at_ S F N
  have e1 : l.length = ns.length := by rw [h2.length, List.length_map]
  have hT : IsTup (h.push (sliceOb .none (.int (i : Nat) u))) ax l.toArray := (isT_tup h1).push _
  have N' : News g c.L (h.push (sliceOb .none (.int (i : Nat) u))) news := fun p hp => ⟨Heap.get?_push_of_some _ (N p hp).1, (N p hp).2⟩
  have F' : Fr g c.L (h.push (sliceOb .none (.int (i : Nat) u))) m := F.push _
  refine subscriptTail_ops (s := st s (h.push (sliceOb .none (.int (i : Nat) u))) tk') (IsTup.typeIs (s := st s (h.push (sliceOb .none (.int (i : Nat) u))) tk') hT) slot_tuple_getitem.lookup (gi_upto hT (Heap.IsSliceOf.new ..) (by rw [List.size_toArray, e1]; exact hi) ?_ (by rw [List.size_toArray, e1, sizeLine_eq]; lia)) hs hg
  have N2 := N'.push F' (tupOf (l.take i))
  have F2 := F'.push (tupOf (l.take i))
  have fr : ∀ p ∈ news, p.1 ≠ (h.push (sliceOb .none (.int (i : Nat) u))).objs.size := fun p hp => Nat.ne_of_lt (Heap.lt_size (N' p hp).1)
  exact hq _ _ _ _ F2 N2 (.inr ⟨l.take i, asI_take h2 i, .head _⟩) (fun _ hp => .tail _ hp) fr
theorem z_range {k : Nat} (F : Fr g c.L h m) (N : News g c.L h news)
    (hq : ∀ r h' tk' u v, Fr g c.L h' m → News g c.L h' ((r, { cls := .type "range", data := .fields #[.int 0 u, .int (k : Nat) t, .int 1 v] }) :: news) → (∀ p ∈ news, p.1 ≠ r) → Q (.ref r) (st s h' tk')) :
    wpAny W.M c.A (call (.type "range") [.int (k : Nat) t]) Q E (st s h tk') := by
  refine call_range_1 (s := st s h tk') ?_
  exact hq _ _ _ _ _ (F.push _) (N.push F _) fun p hp => Nat.ne_of_lt (Heap.lt_size (N p hp).1)
end
end Mine
end
section
open PySem PySem.W PySem.Calls PySem.Spec PyProof.Rows
set_option Elab.async false
set_option maxRecDepth 100000
set_option maxHeartbeats 2000000
namespace Mine
section
variable {W : Wd} {base g h : Heap} {c : Cx} {sc : Scope} {n : Nat} {m : Str → Option Value} {news : Led} {s : Shared} {tk' : Nat} {E : Value → Shared → Prop} {Q : Value → Shared → Prop} {t u : Tok} {ax bx : Addr} {ns ms : Cs}
theorem z_tupM {vs : List Value} (F : Fr g c.L h m) (N : News g c.L h news) (hz : vs.length ≤ 1000)
    (hq : ∀ q h' tk' news', Fr g c.L h' m → News g c.L h' news' → (q, tupOf vs) ∈ news' → ((∀ p ∈ news, p ∈ news') ∧ (∀ p ∈ news, p.1 ≠ q)) → Q (.ref q) (st s h' tk')) : wpAny W.M c.A (newTuple vs) Q E (st s h tk') :=
  z_tuple F N hz fun q h₁ tk₁ F₁ N₁ hne => hq q h₁ tk₁ _ F₁ N₁ (.head _) ⟨fun _ hp => .tail _ hp, hne⟩
def rangeOb (u v t : Tok) (k : Nat) : Obj := { cls := .type "range", data := .fields #[.int 0 u, .int (k : Nat) t, .int 1 v] }
def RangeAt (r : Addr) (k : Nat) (news : Led) : Prop := ∃ u v t, (r, rangeOb u v t k) ∈ news
theorem z_rangeM {k : Nat} (F : Fr g c.L h m) (N : News g c.L h news)
    (hq : ∀ r h' tk' news' (_ : Unit), Fr g c.L h' m → News g c.L h' news' → RangeAt r k news' → (∀ p ∈ news, p ∈ news') → Q (.ref r) (st s h' tk')) :
    wpAny W.M c.A (call (.type "range") [.int (k : Nat) t]) Q E (st s h tk') :=
  z_range F N fun r h' tk' u v F' N' _ => hq r h' tk' _ () F' N' ⟨u, v, t, .head _⟩ fun _ hp => .tail _ hp
end
section
variable {W : Wd} {base g h : Heap} {c : Cx} {sc : Scope} {n : Nat} {m : Str → Option Value} {news : Led} {s : Shared} {tk : Nat} {rest body : List Stmt} {Q : Flow → Shared → Prop} {x : Str} {px pos : Pos}
theorem range_size (k : Nat) : Builtin.Range.rangeSize 0 (k : Int) 1 = k := by
  rw [rangeSize_one]
  split <;> lia
theorem for_range {r : Addr} {k : Nat} (J : Nat → (Str → Option Value) → Led → Prop) (S : Wk W base c g sc n) (kx : Lc sc x) (F : Fr g c.L h m) (N : News g c.L h news) (hr : RangeAt r k news) (hk : k ≤ 1000000) (hj : J 0 m news)
    (turn : ∀ i t h tk m' l I oI, i < k → (∀ p ∈ news, p.1 ≠ I) → oI.cls ≠ .type "tuple" → Fr g c.L h (upd m' x (.int (i : Nat) t)) → News g c.L h ((I, oI) :: l) → (∀ p ∈ l, p.1 ≠ I) → J i m' l → wpAny W.M c.A (execs body c.env) (ForE W c g s I oI J i rest Q) NoE (st s h tk))
    (done : ∀ h tk m' l, Fr g c.L h m' → News g c.L h l → J k m' l → wpAny W.M c.A (execs rest c.env) Q NoE (st s h tk)) :
    wpAny W.M c.A (pyIter (.ref r)) (fun iv s₂ => ForK W c (.Name x px) iv body rest Q s₂) NoE (st s h tk) := by
  obtain ⟨u, v, t, hr⟩ := hr
  obtain ⟨f1, f2, f3⟩ := fresh_facts F N
  refine wpAny_pyIter_range (s := st s h tk) (N _ hr).1 (small_one (by lia) (by lia) (by lia) (by lia)) ?_
  rw [range_size]
  have W9 := LCg.range_walks (prog := W.prog) (w := W.w) (A := c.A) (I := h.objs.size) rfl 0 k
  refine for_walk J S kx W9 (F.push _) (news_push N _) (by show IsRangeIter _ _ _ _ _; simpa using Heap.get?_push_size _ rfl) f1 f2 f3 (fun b hb hn => absurd (List.mem_singleton.mp hb) hn) (fun i h' hs => ⟨_, hs, by simp⟩) hj (fun i v h' tk' m' l oI hi hP hc F' N' hl hj' => ?_) done
  obtain ⟨t', rfl⟩ := hP
  have e : (0 : Int) + (i : Int) = ((i : Nat) : Int) := by lia
  rw [e] at F'
  exact turn i t' h' tk' m' l _ oI hi f3 hc F' N' hl hj'
end
section
variable {W : Wd} {A : Ad} {news : Led}
theorem turn_sub {I Lf : Addr} {oI : Obj} {news₀ l l' l'' : Led} (h1 : ∀ p ∈ news₀, p ∈ l) (h2 : ∀ p ∈ (I, oI) :: l, p ∈ l') (hf : ∀ p ∈ news₀, p.1 ≠ I) (h3 : ∀ p ∈ l', p.1 ≠ I → p ∈ l'') : ∀ p ∈ news₀, p ∈ l'' :=
  fun p hp => h3 p (h2 p (.tail _ (h1 p hp))) (hf p hp)
theorem ct_lawUnits (KF : Kf W A) {ax : Addr} {codes : Cs} (H : IntsAt ax codes news) (hc : ∀ k ∈ codes, k < 1114112) (hl : codes.length ≤ 1000) :
    Ct W A.lawUnits [.ref ax] 1 news (fun r l => (∃ t, r = .str (strS (units codes)) t) ∧ ∀ p ∈ news, p ∈ l) := by
  with_reducible refine enter KF.d_lawUnits.fn (fun _ _ _ _ _ _ => by kernel_rfl) (locs (by kernel_rfl)) (by kernel_rfl) (by kernel_rfl) (by kernel_rfl) (of_decide_eq_true (by kernel_rfl)) ?_
  intro c base g m s h tk₀ S F N hm
  have hm_codes : m ("codes" : Str) = some _ := (hm _).trans rfl
  clear hm
  have kl_codes : Lc (dScope (defAt 57)) "codes" := ⟨by kernel_rfl, by kernel_rfl⟩
  have kl_out : Lc (dScope (defAt 57)) "out" := ⟨by kernel_rfl, by kernel_rfl⟩
  have kl_code : Lc (dScope (defAt 57)) "code" := ⟨by kernel_rfl, by kernel_rfl⟩
  have kg_chr : Gb (dScope (defAt 57)) "chr" := ⟨by kernel_rfl, by kernel_rfl⟩
  show wpAny _ _ (execs (_ :: _) _) _ _ _
  with_reducible
   refine x_assign ?_ (by k_dflt exact rfl)
   refine d_str ?_
   refine z_store ‹_› ‹_› ‹_› ‹_› ?_; intro _ _ _ _
  with_reducible refine x_for ?_ (fun _ => by with_unfolding_all rfl)
  with_reducible refine z_local ‹_› ‹_› ‹_› (by tb_start) ?_
  rename_i h₁ tk₁ F₁ N₁
  with_reducible refine for_ints (S' := []) (fun i m' l => (∃ t, m' ("out" : Str) = some (.str (strS (units (codes.take i))) t)) ∧ ∀ p ∈ news, p ∈ l) S (by assumption) F₁ N₁ H List.not_mem_nil ?_ (fun i m' l q => Kp.of q.2) ?_ ?_
  · exact ⟨⟨_, by rw [show strS (units (codes.take 0)) = Str.ofString "" from lit_nil.symm]; tb_start⟩, fun _ hp => hp⟩
  · rintro i k t₃ h₃ tk₃ m₃ l₃ I oI hk hf₃ hcI F₃ N₃ hfr ⟨⟨t₄, hm⟩, K⟩
    have hkc : k < 1114112 := hc k (List.mem_of_getElem? hk)
    have hil : i < codes.length := (List.getElem?_eq_some_iff.mp hk).1
    have hul := units_len (codes.take i)
    rw [List.length_take] at hul
    clear hm_codes
    by_cases hb : k < 65536
    · have f1 : decide (k < 65536) = true := decide_eq_true hb
      have e1 : unit1 k = [k] := if_pos hb
      have y1 : (units (codes.take i)).length + ([k] : Cs).length ≤ 1000000 := by simp only [List.length_cons, List.length_nil]; lia
      with_reducible
       refine x_if ?_
       refine t_cmpN ‹_› ‹_› ‹_› (by tb_start) ?_ (by with_unfolding_all rfl)
       refine n_lt ?_
       refine Exists.intro _ (And.intro rfl ?_)
       refine dec_tt ‹_› ?_
       refine x_app ?_
       refine x_augN ?_
       refine z_load ‹_› ‹_› ‹_› (by tb_start) ?_
       refine e_built ‹_› ‹_› ‹_› (Kf.b_chr ‹_›) boot_chr (by decide) ?_ (by k_dflt exact rfl)
       refine z_local ‹_› ‹_› ‹_› (by tb_start) ?_
       refine d_chr (by first | with_reducible assumption | lia) ?_
       refine d_iaddS (by first | with_reducible assumption | lia) ?_
       refine z_store ‹_› ‹_› ‹_› ‹_› ?_; intro _ _ _ _
       refine x_app0 ?_
       refine x_nil ?_
      with_reducible refine for_next ‹_› ‹_› List.mem_cons_self fun l'' hl'' => ?_
      refine ⟨⟨_, by rw [units_take hk, e1]; tb_start⟩, turn_sub (Lf := 0) K (fun _ hp => hp) hf₃ hl''⟩
    · have f1 : decide (k < 65536) = false := decide_eq_false hb
      have e1 : unit1 k = [55232 + k / 1024] ++ [56320 + k % 1024] := by
        unfold unit1
        rw [if_neg hb, show 55296 + (k - 65536) / 1024 = 55232 + k / 1024 by lia, show 56320 + (k - 65536) % 1024 = 56320 + k % 1024 by lia]; rfl
      have y0 : ([55232 + k / 1024] : Cs).length + ([56320 + k % 1024] : Cs).length ≤ 1000000 := Nat.le_of_ble_eq_true rfl
      have y1 : (units (codes.take i)).length + ([55232 + k / 1024] ++ [56320 + k % 1024] : Cs).length ≤ 1000000 := by simp only [List.length_append, List.length_cons, List.length_nil]; lia
      with_reducible
       refine x_if ?_
       refine t_cmpN ‹_› ‹_› ‹_› (by tb_start) ?_ (by with_unfolding_all rfl)
       refine n_lt ?_
       refine Exists.intro _ (And.intro rfl ?_)
       refine dec_ff ‹_› ?_
       refine x_app ?_
       refine x_augN ?_
       refine z_load ‹_› ‹_› ‹_› (by tb_start) ?_
       refine PySem.wpAny_BinOp ?_
       refine e_built ‹_› ‹_› ‹_› (Kf.b_chr ‹_›) boot_chr (by decide) ?_ (by k_dflt exact rfl)
       refine PySem.wpAny_BinOp ?_
       refine d_num ?_
       refine e_binN ‹_› ‹_› ‹_› (by tb_start) ?_
       refine d_div (by decide) (by decide) ?_
       refine d_add ?_
       refine d_chr (by first | with_reducible assumption | lia) ?_
       refine e_built ‹_› ‹_› ‹_› (Kf.b_chr ‹_›) boot_chr (by decide) ?_ (by k_dflt exact rfl)
       refine PySem.wpAny_BinOp ?_
       refine d_num ?_
       refine e_binN ‹_› ‹_› ‹_› (by tb_start) ?_
       refine d_mod (by decide) ?_
       refine d_add ?_
       refine d_chr (by first | with_reducible assumption | lia) ?_
       refine d_addS (by first | with_reducible assumption | lia) ?_
       refine d_iaddS (by first | with_reducible assumption | lia) ?_
       refine z_store ‹_› ‹_› ‹_› ‹_› ?_; intro _ _ _ _
       refine x_app0 ?_
       refine x_nil ?_
      with_reducible refine for_next ‹_› ‹_› List.mem_cons_self fun l'' hl'' => ?_
      refine ⟨⟨_, by rw [units_take hk, e1]; tb_start⟩, turn_sub (Lf := 0) K (fun _ hp => hp) hf₃ hl''⟩
  · rintro h₃ tk₃ m₃ l₃ F₃ N₃ ⟨⟨t₄, hm⟩, K⟩
    rw [List.take_length] at hm
    with_reducible
     refine x_ret ?_
     refine z_local ‹_› ‹_› ‹_› (by tb_start) ?_
     refine z_done ‹_› ‹_› ?_
    exact ⟨⟨_, rfl⟩, K⟩
theorem menu4 {a b c : Str} {ta tb tc td : Tok} {x y z d i : Nat} (ha : a = strS [x]) (hb : b = strS [y]) (hc : c = strS [z]) (hi : i < 4) :
    ∃ t, ([Value.str a ta, .str b tb, .str c tc, .str (strS [d]) td] : List Value)[i]? = some (.str (strS [([x, y, z, d] : Cs).getD i 0]) t) := by
  subst ha hb hc
  match i, hi with
  | 0, _ => exact ⟨_, rfl⟩
  | 1, _ => exact ⟨_, rfl⟩
  | 2, _ => exact ⟨_, rfl⟩
  | 3, _ => exact ⟨_, rfl⟩
theorem lit55 : Str.ofString "7" = strS [55] := by decide
theorem lit113 : Str.ofString "q" = strS [113] := by decide
theorem k_menu4 {W : Wd} {g h : Heap} {c : Cx} {news : Led} {s : Shared} {tk' : Nat} {E : Value → Shared → Prop} {Q : Value → Shared → Prop} {u ta tb tc td : Tok} {ax : Addr} {value slice : Expr} {a b c₁ : Str} {x y z d i : Nat} (N : News g c.L h news)
    (H : (ax, tupOf [.str a ta, .str b tb, .str c₁ tc, .str (strS [d]) td]) ∈ news) (ha : a = strS [x]) (hb : b = strS [y]) (hc : c₁ = strS [z]) (hi : i < 4) (hq : ∀ t tk', Q (.str (strS [([x, y, z, d] : Cs).getD i 0]) t) (st s h tk'))
    (hs : subscripted slice false (.ref ax) (.int (i : Nat) u) = operate [.ref ax, .int (i : Nat) u] (getItem (.ref ax) (.int (i : Nat) u))) (hg : ∀ r, letTemporaryGo value (.ref ax) r = pure ()) :
    wpAny W.M c.A (subscriptTail value slice (.ref ax) (.int (i : Nat) u)) Q E (st s h tk') := by
  obtain ⟨t, e⟩ := menu4 (ta := ta) (tb := tb) (tc := tc) (td := td) (d := d) ha hb hc hi
  exact k_itemV N H e (by lia) (fun tk' => hq t tk') hs hg
theorem lets_at (i : Nat) : letters[i % 46]? = some (letters.getD (i % 46) 0) := by
  have h : i % 46 < letters.length := Nat.mod_lt _ (by decide)
  rw [List.getElem?_eq_getElem h, List.getD_eq_getElem?_getD, List.getElem?_eq_getElem h]; rfl
theorem lets_lt (i : Nat) : letters.getD (i % 46) 0 < 1114112 := by
  have h : i % 46 < letters.length := Nat.mod_lt _ (by decide)
  have : letters.all (fun k => decide (k < 1114112)) = true := by decide
  rw [List.getD_eq_getElem?_getD, List.getElem?_eq_getElem h]
  exact of_decide_eq_true (List.all_eq_true.mp this _ (List.getElem_mem h))
def runT (v j : Nat) : Cs := (List.range j).map fun j => [55, 95, 113, letters.getD ((v + 11 * j) % 46) 0].getD ((v / 4 + j) % 4) 0
theorem runT_succ (v j : Nat) : runT v (j + 1) = runT v j ++ [[55, 95, 113, letters.getD ((v + 11 * j) % 46) 0].getD ((v / 4 + j) % 4) 0] := by
  unfold runT; rw [List.range_succ, List.map_append]; rfl
theorem runP_eq (v : Nat) : runP v = letters.getD (v % 46) 0 :: runT (v / 46) (v / 46 % 4) := rfl
theorem ct_lawRun (KF : Kf W A) {v : Nat} {t : Tok} (hv : v < 2 ^ 40) : Ct W A.lawRun [.int (v : Nat) t] 1 news (fun r l => (∃ t, r = .str (strS (runP v)) t) ∧ ∀ p ∈ news, p ∈ l) := by
  have f1 := lets_at v
  have f2 := lets_lt v
  with_reducible refine enter KF.d_lawRun.fn (fun _ _ _ _ _ _ => by kernel_rfl) (locs (by kernel_rfl)) (by kernel_rfl) (by kernel_rfl) (by kernel_rfl) (of_decide_eq_true (by kernel_rfl)) ?_
  intro c base g m s h tk₀ S F N hm
  have hm_v : m ("v" : Str) = some _ := (hm _).trans rfl
  clear hm
  have kl_v : Lc (dScope (defAt 58)) "v" := ⟨by kernel_rfl, by kernel_rfl⟩
  have kl_out : Lc (dScope (defAt 58)) "out" := ⟨by kernel_rfl, by kernel_rfl⟩
  have kl_j : Lc (dScope (defAt 58)) "j" := ⟨by kernel_rfl, by kernel_rfl⟩
  have kg_chr : Gb (dScope (defAt 58)) "chr" := ⟨by kernel_rfl, by kernel_rfl⟩
  have kg_range : Gb (dScope (defAt 58)) "range" := ⟨by kernel_rfl, by kernel_rfl⟩
  have kg_law_LETTERS : Gb (dScope (defAt 58)) "_law_LETTERS" := ⟨by kernel_rfl, by kernel_rfl⟩
  have gg_law_LETTERS := KF.t_lawLetters.1
  show wpAny _ _ (execs (_ :: _) _) _ _ _
  with_reducible
   refine x_assign ?_ (by k_dflt exact rfl)
   refine e_built ‹_› ‹_› ‹_› (Kf.b_chr ‹_›) boot_chr (by decide) ?_ (by k_dflt exact rfl)
   refine PyProof.Rows.Subscript_ ?_
   refine z_global ‹_› ‹_› ‹_› ‹_› ?_
   refine e_binN ‹_› ‹_› ‹_› (by tb_start) ?_
   refine d_mod (by decide) ?_
   refine k_item ‹_› ‹_› ‹_› (TI.k (Kf.t_lawLetters ‹_›).2) ‹_› (by first | with_reducible assumption | lia) ?_ (by with_unfolding_all rfl) (by intro _; with_unfolding_all rfl); intro _ _
   refine d_chr (by first | with_reducible assumption | lia) ?_
   refine z_store ‹_› ‹_› ‹_› ‹_› ?_; intro _ _ _ _
   refine x_assign ?_ (by k_dflt exact rfl)
   refine e_binN ‹_› ‹_› ‹_› (by tb_start) ?_
   refine d_div (by decide) (by decide) ?_
   refine z_store ‹_› ‹_› ‹_› ‹_› ?_; intro _ _ _ _
  with_reducible refine x_for ?_ (fun _ => by with_unfolding_all rfl)
  with_reducible
   refine v_call ?_
   refine z_builtin ‹_› ‹_› ‹_› (Kf.b_range ‹_›) boot_range (by decide) ?_
   refine PyProof.Rows.callWith_type1 ?_ (by k_dflt exact rfl) (by k_dflt exact rfl)
   refine z_args ?_ (by k_dflt exact rfl)
   refine e_binN ‹_› ‹_› ‹_› (by tb_start) ?_
   refine d_mod (by decide) ?_
   refine z_args0 ?_
   refine z_rangeM ‹_› ‹_› ?_; intro _ _ _ _ _ _ _ _ _
  rename_i r h₁ tk₁ news₁ _ F₁ N₁ R₁ K₁
  with_reducible refine for_range (fun i m' l => (∃ t, m' ("out" : Str) = some (.str (strS (letters.getD (v % 46) 0 :: runT (v / 46) i)) t)) ∧ (∃ t, m' ("v" : Str) = some (.int ((v / 46 : Nat) : Int) t)) ∧ ∀ p ∈ news, p ∈ l) S (by assumption) F₁ N₁ R₁ (by lia) ?_ ?_ ?_
  · exact ⟨⟨_, by rw [show runT (v / 46) 0 = [] from rfl]; tb_start⟩, ⟨_, by tb_start⟩, K₁⟩
  · rintro i t₃ h₃ tk₃ m₃ l₃ I oI hil hf₃ hcI F₃ N₃ hfr ⟨⟨t₄, hm⟩, ⟨t₅, hm2⟩, K⟩
    have f3 := lets_at (v / 46 + 11 * i)
    have f4 := lets_lt (v / 46 + 11 * i)
    have y1 : (letters.getD (v % 46) 0 :: runT (v / 46) i).length + ([[55, 95, 113, letters.getD ((v / 46 + 11 * i) % 46) 0].getD ((v / 46 / 4 + i) % 4) 0] : Cs).length ≤ 1000000 := by
      simp only [runT, List.length_cons, List.length_nil, List.length_map, List.length_range]; lia
    clear hm_v
    with_reducible
     refine x_augN ?_
     refine z_load ‹_› ‹_› ‹_› (by tb_start) ?_
     refine PyProof.Rows.Subscript_ ?_
     refine PyProof.Rows.Tuple_ ?_
     refine z_args ?_ (by k_dflt exact rfl)
     refine d_str ?_
     refine z_args ?_ (by k_dflt exact rfl)
     refine d_str ?_
     refine z_args ?_ (by k_dflt exact rfl)
     refine d_str ?_
     refine z_args ?_ (by k_dflt exact rfl)
     refine e_built ‹_› ‹_› ‹_› (Kf.b_chr ‹_›) boot_chr (by decide) ?_ (by k_dflt exact rfl)
     refine PyProof.Rows.Subscript_ ?_
     refine z_global ‹_› ‹_› ‹_› ‹_› ?_
     refine PySem.wpAny_BinOp ?_
     refine PySem.wpAny_BinOp ?_
     refine z_local ‹_› ‹_› ‹_› (by tb_start) ?_
     refine PySem.wpAny_BinOp ?_
     refine d_num ?_
     refine z_local ‹_› ‹_› ‹_› (by tb_start) ?_
     refine d_mul (by first | with_reducible assumption | decide) ?_
     refine d_add ?_
     refine d_num ?_
     refine d_mod (by decide) ?_
     refine k_item ‹_› ‹_› ‹_› (TI.k (Kf.t_lawLetters ‹_›).2) ‹_› (by first | with_reducible assumption | lia) ?_ (by with_unfolding_all rfl) (by intro _; with_unfolding_all rfl); intro _ _
     refine d_chr (by first | with_reducible assumption | lia) ?_
     refine z_args0 ?_
     refine z_tupM ‹_› ‹_› (by k_dflt exact Nat.le_of_ble_eq_true rfl) ?_; intro _ _ _ _ _ _ _ _
     refine PySem.wpAny_BinOp ?_
     refine PySem.wpAny_BinOp ?_
     refine e_binN ‹_› ‹_› ‹_› (by tb_start) ?_
     refine d_div (by decide) (by decide) ?_
     refine z_local ‹_› ‹_› ‹_› (by tb_start) ?_
     refine d_add ?_
     refine d_num ?_
     refine d_mod (by decide) ?_
     refine kba_turn (value' := Expr.Name (Str.ofString "_") ⟨0, 0, 0, 0⟩) (by intro _; with_unfolding_all rfl) ?_
     refine k_menu4 ‹_› ‹_› lit55 lit95 lit113 (by lia) ?_ (by with_unfolding_all rfl) (by intro _; with_unfolding_all rfl); intro _ _
     refine d_iaddS (by first | with_reducible assumption | lia) ?_
     refine z_store ‹_› ‹_› ‹_› ‹_› ?_; intro _ _ _ _
     refine x_nil ?_
    rename (∀ p ∈ (I, oI) :: l₃, p ∈ _) ∧ _ => KK
    with_reducible refine for_next ‹_› ‹_› (KK.1 _ List.mem_cons_self) fun l'' hl'' => ?_
    refine ⟨⟨_, by rw [runT_succ, ← List.cons_append]; tb_start⟩, ⟨_, by tb_start⟩, turn_sub (Lf := 0) K KK.1 (fun p hp => hf₃ p (K₁ p hp)) hl''⟩
  · rintro h₃ tk₃ m₃ l₃ F₃ N₃ ⟨⟨t₄, hm⟩, _, K⟩
    with_reducible
     refine x_ret ?_
     refine z_local ‹_› ‹_› ‹_› (by tb_start) ?_
     refine z_done ‹_› ‹_› ?_
    exact ⟨⟨_, by rw [runP_eq]⟩, K⟩
end
end Mine
end
section
open PySem PySem.W PySem.Calls PySem.Spec PyProof.Rows
set_option Elab.async false
set_option maxRecDepth 100000
set_option maxHeartbeats 2000000
namespace Mine
inductive AllR (R : Int → Value → Prop) : List Value → List Int → Prop
  | nil : AllR R [] []
  | cons {y : Value} {k : Int} {ys : List Value} {ks : List Int} : R k y → AllR R ys ks → AllR R (y :: ys) (k :: ks)
theorem AllR.snoc {R : Int → Value → Prop} {y : Value} {k : Int} (r : R k y) : ∀ {ys : List Value} {ks : List Int}, AllR R ys ks → AllR R (ys ++ [y]) (ks ++ [k])
  | _, _, .nil => .cons r .nil
  | _, _, .cons q h => .cons q (AllR.snoc r h)
theorem AllR.strs : ∀ {ys : List Value} {ks : Cs}, AllR (fun k y => ∃ q t, k = ((q : Nat) : Int) ∧ y = .str (strS [q]) t) ys (asI ks) → Glue ys ks
  | _, [], .nil => .nil
  | _, k :: r, .cons h hs => by
    obtain ⟨q, t, e1, rfl⟩ := h
    have e2 : k = q := by have : (k : Int) = (q : Int) := e1; lia
    subst e2
    obtain ⟨ys, h1, h2⟩ := AllR.strs hs
    exact ⟨[k] :: ys, .cons _ t h1, by rw [List.flatten_cons, h2]; rfl⟩
theorem AllR.asInts {f : Int → Nat} : ∀ {ys : List Value} {ks : List Int}, AllR (fun k y => ∃ t, y = .int ((f k : Nat) : Int) t) ys ks → IntsAre ys (asI (ks.map f))
  | _, _, .nil => .nil
  | _, _, .cons h hs => by
    obtain ⟨t, rfl⟩ := h
    exact .cons _ t (AllR.asInts hs)
section
variable {W : Wd} {base g h : Heap} {c : Cx} {sc : Scope} {n : Nat} {m : Str → Option Value} {news : Led} {s : Shared} {tk' : Nat} {E : Value → Shared → Prop} {elt iter : Expr} {x : Str} {px pos : Pos} {scope : Scope} {cl : List (Str × Addr)}
def CTurn (W : Wd) (c : Cx) (g : Heap) (m : Str → Option Value) (elt : Expr) (x : Str) (scope : Scope) (cl : List (Str × Addr)) (news : Led) (sx : Shared) (R : Int → Value → Prop) (ks : List Int) : Prop :=
  ∀ (k : Int) (t : Tok) (C : Addr) (oC : Obj) (m₂ : Str → Option Value) (all : Led) (h : Heap) (tk : Nat) (E' : Value → Shared → Prop), k ∈ ks → LCg.NsObj oC m₂ → m₂ x = some (.int k t) → Fr g c.L h m → News g c.L h all → (C, oC) ∈ all → (∀ p ∈ news, p ∈ all) →
    wpAny W.M c.A (eval elt (compEnvC scope cl C c.env)) (fun y s' => ∃ h' tk', s' = st sx h' tk' ∧ Fr g c.L h' m ∧ News g c.L h' all ∧ R k y) E' (st sx h tk)
theorem comp_rest {sx : Shared} {Sx : Led → Prop} {P : Nat → Value → Prop} {Fin : List Value → Led → Prop} {n : Nat} (ks : List Int) (R : Int → Value → Prop) (hks : ks.length = n) (hP : ∀ i v, i < n → P i v → ∃ k t, ks[i]? = some k ∧ v = .int k t) (hS : Sx news)
    (turn : CTurn W c g m elt x scope cl news sx R ks) (fin : ∀ ys, AllR R ys ks → Fin ys news) : LCg.CompRest W.prog W.w c.A g c.L m c.env elt x scope cl sx Sx P Fin n 0 [] news := by
  have key : ∀ (j i : Nat) (ys : List Value), i + j = n → AllR R ys (ks.take i) → LCg.CompRest W.prog W.w c.A g c.L m c.env elt x scope cl sx Sx P Fin j i ys news := by
    intro j
    induction j with
    | zero =>
      intro i ys hi hy
      have e : i = ks.length := by lia
      subst e
      rw [List.take_length] at hy
      exact fin ys hy
    | succ j ih =>
      intro i ys hi hy
      refine LCg.CompRest.succ fun v I oI C oC D m₂ h tk E' hp hC hx F N off ne => ?_
      obtain ⟨k, t, hk, rfl⟩ := hP i v (by lia) hp
      have hil : i < ks.length := (List.getElem?_eq_some_iff.mp hk).1
      refine wpAny_mono (turn k t C oC m₂ _ h tk E' (List.mem_of_getElem? hk) hC hx F N (.tail _ (.head _)) fun p hp => .tail _ (.tail _ (.tail _ hp))) (fun y s' q => ?_) fun _ _ q => q
      obtain ⟨h', tk', rfl, F', N', r⟩ := q
      refine LCg.CompEnd.intro (s₁ := st sx h tk) F' N' news (fun p hp => hp) off hS (ih (i + 1) _ (by lia) ?_)
      rw [List.take_succ_eq_append_getElem hil, (List.getElem?_eq_some_iff.mp hk).2]
      exact AllR.snoc r hy
  exact key n 0 [] (by lia) .nil
theorem comp_list {y : Str} {py : Pos} {ax : Addr} {vs : List Value} {kk : Nat} {ks : List Int} {Q : Value → Shared → Prop} (R : Int → Value → Prop) (S : Wk W base c g sc n) (F : Fr g c.L h m) (N : News g c.L h news) (ky : Lc sc y) (hy : m y = some (.ref ax)) (hax : (ax, listOf vs.toArray kk) ∈ news) (hi : IntsAre vs ks)
    (hsz : ks.length ≤ 100000)
    (hclos : closureFor scope c.env = pure cl) (hcell : ∀ y ∈ scope.names, y.2 ≠ .cell) (hkind : scope.kind = .function)
    (hnames : ∀ y ∈ scope.names, y.2 = .local → scope.names.lookup y.1 = some .local) (hx : scope.names.lookup x = some .local)
    (turn : ∀ sx, CTurn W c g m elt x scope cl news sx R ks)
    (hq : ∀ D ys h' tk', AllR R ys ks → Fr g c.L h' m → News g c.L h' ((D, LCg.lst ys) :: news) → (∀ p ∈ news, p.1 ≠ D) → Q (.ref D) (st s h' tk')) :
    wpAny W.M c.A (eval (.ListComp elt [⟨.Name x px, .Name y py, [], 0⟩] scope pos) c.env) Q E (st s h tk') := by
  have hlen : vs.length = ks.length := hi.length
  refine LCg.ListComp_U (s := st s h tk') F hclos hcell hkind hnames hx (z_local S F ky hy ?_) (fun _ => rfl)
  refine LCg.CompSrc.ledger (s₁ := st s h tk') rfl F N hax (by rw [List.size_toArray, hlen, sizeLine_eq]; lia) fun g' => ?_
  refine comp_rest ks R (by rw [List.size_toArray, hlen]) (fun i v _ hv => ?_) (.inr ⟨_, hax, rfl, _, rfl⟩) (turn _) fun ys hR D h' tk F' N' off => ?_
  · obtain ⟨k, t, e, hk⟩ := IntsAre.at hi i v (by simpa using hv)
    exact ⟨k, t, hk, e⟩
  · refine hq D ys h' tk hR F' N' ?_
    have : ∀ {l : Led}, LCg.Off1 D l → ∀ p ∈ l, p.1 ≠ D := by
      intro l
      induction l with
      | nil => intro _ p hp; cases hp
      | cons q r ih =>
        intro o p hp
        rcases List.mem_cons.mp hp with rfl | hp
        · exact o.1
        · exact ih o.2 p hp
    exact this off
theorem comp_listA {y z : Str} {py pz spos : Pos} {ax : Addr} {vs : List Value} {kk : Nat} {ks : List Int} {rest : List Stmt} {Q : Flow → Shared → Prop} (R : Int → Value → Prop) (S : Wk W base c g sc n) (F : Fr g c.L h m) (N : News g c.L h news) (ky : Lc sc y) (kz : Lc sc z) (hy : m y = some (.ref ax)) (hax : (ax, listOf vs.toArray kk) ∈ news) (hi : IntsAre vs ks)
    (hsz : ks.length ≤ 100000) (hsw : swapsWith (.ListComp elt [⟨.Name x px, .Name y py, [], 0⟩] scope pos) (some (.Name z pz)) spos.line c.env = pure true)
    (hclos : closureFor scope c.env = pure cl) (hcell : ∀ y ∈ scope.names, y.2 ≠ .cell) (hkind : scope.kind = .function)
    (hnames : ∀ y ∈ scope.names, y.2 = .local → scope.names.lookup y.1 = some .local) (hx : scope.names.lookup x = some .local)
    (turn : ∀ sx, CTurn W c g m elt x scope cl news sx R ks)
    (hq : ∀ D ys h' tk', AllR R ys ks → Fr g c.L h' (upd m z (.ref D)) → News g c.L h' ((D, LCg.lst ys) :: news) → (∀ p ∈ news, p.1 ≠ D) → wpAny W.M c.A (execs rest c.env) Q E (st s h' tk')) :
    wpAny W.M c.A (execs (.Assign [.Name z pz] (.ListComp elt [⟨.Name x px, .Name y py, [], 0⟩] scope pos) spos :: rest) c.env) Q E (st s h tk') := by
  have hlen : vs.length = ks.length := hi.length
  refine wpAny_execs_cons (LCg.Assign_ListComp_U (s := st s h tk') F rfl hsw hclos hcell hkind hnames hx (by show c.cs.names.lookup z = _; rw [S.cs]; exact kz.at_) (by show (c.cs.kind == .class || (c.cs.kind == .module && c.L != mainGlobals)) = false; rw [S.cs, S.kind]; rfl) (z_local S F ky hy ?_) (fun _ => rfl))
  refine LCg.CompSrc.ledger (s₁ := st s h tk') rfl F N hax (by rw [List.size_toArray, hlen, sizeLine_eq]; lia) fun g' => ?_
  refine comp_rest ks R (by rw [List.size_toArray, hlen]) (fun i v _ hv => ?_) (.inr ⟨_, hax, rfl, _, rfl⟩) (turn _) fun ys hR D h' tk F' N' off => ?_
  · obtain ⟨k, t, e, hk⟩ := IntsAre.at hi i v (by simpa using hv)
    exact ⟨k, t, hk, e⟩
  · refine hq D ys h' tk hR F' N' ?_
    have : ∀ {l : Led}, LCg.Off1 D l → ∀ p ∈ l, p.1 ≠ D := by
      intro l
      induction l with
      | nil => intro _ p hp; cases hp
      | cons q r ih =>
        intro o p hp
        rcases List.mem_cons.mp hp with rfl | hp
        · exact o.1
        · exact ih o.2 p hp
    exact this off
theorem turn_chr {ks : Cs} {x : Str} {pf pa pc : Pos} {sx : Shared} {A : Ad} (S : Wk W base c g sc n) (KF : Kf W A) (hk : ∀ k ∈ ks, k < 1114112)
    (h1 : (relabel scope c.env).kind = .function) (h2 : (relabel scope c.env).names.lookup x = some .local) (h3 : (relabel scope c.env).names.lookup ("chr" : Str) = some .globalImplicit) (h4 : (x == ("__debug__" : Str)) = false) :
    CTurn W c g m (.Call (.Name "chr" pf) [.Name x pa] [] pc) x scope cl news sx (fun k y => ∃ q t, k = ((q : Nat) : Int) ∧ y = .str (strS [q]) t) (asI ks) := by
  intro k t C oC m₂ all h tk E' hm hC hx F N hCm _
  obtain ⟨q, hq, rfl⟩ := List.mem_map.mp hm
  refine v_call (LCgL.ld_built (s := st sx h tk) F S.G.X S.G.T KF.b_chr boot_chr (by decide) ?_ rfl rfl h1 h3 (by decide))
  refine PyProof.Rows.callWith_builtin1 ?_ rfl rfl
  refine z_args (s := sx) (h := h) (tk := tk) (LCgL.ld_own (s := st sx h tk) N hCm hC hx ?_ h1 h2 h4) rfl
  refine z_args0 (n_chr (hk q hq) fun t' tk'' => ⟨h, tk'', rfl, F, N, q, t', rfl, rfl⟩)
end
end Mine
end
section
open PySem PySem.W PySem.Calls PySem.Spec PyProof.Rows
set_option Elab.async false
set_option maxRecDepth 100000
set_option maxHeartbeats 2000000
namespace Mine
section
variable {W : Wd} {base g h : Heap} {c : Cx} {sc : Scope} {n : Nat} {m : Str → Option Value} {news : Led} {s : Shared} {tk' : Nat} {E : Value → Shared → Prop} {elt iter : Expr} {x : Str} {px pos : Pos} {scope : Scope} {cl : List (Str × Addr)}
theorem off1_mem {D : Addr} : ∀ {l : Led}, LCg.Off1 D l → ∀ p ∈ l, p.1 ≠ D
  | [], _, p, hp => nomatch hp
  | q :: r, o, p, hp => by
    rcases List.mem_cons.mp hp with rfl | hp
    · exact o.1
    · exact off1_mem o.2 p hp
theorem comp_tup {Q : Value → Shared → Prop} (R : Int → Value → Prop) (S : Wk W base c g sc n) (F₀ : Fr g c.L h m)
    (hclos : closureFor scope c.env = pure cl) (hcell : ∀ y ∈ scope.names, y.2 ≠ .cell) (hkind : scope.kind = .function)
    (hnames : ∀ y ∈ scope.names, y.2 = .local → scope.names.lookup y.1 = some .local) (hx : scope.names.lookup x = some .local) (hs : ∀ x, foldedSetIterable iter c.env x = pure x)
    (hit : wpAny W.M c.A (eval iter c.env) (fun v s₁ => ∃ ax ns h₁ tk₁ news, v = .ref ax ∧ s₁ = st s h₁ tk₁ ∧ Fr g c.L h₁ m ∧ News g c.L h₁ news ∧ TI W ax ns news ∧ ns.length ≤ 100000 ∧ (∀ sx, CTurn W c g m elt x scope cl news sx R (asI ns)) ∧
      (∀ D ys h' tk', AllR R ys (asI ns) → Fr g c.L h' m → News g c.L h' ((D, LCg.lst ys) :: news) → (∀ p ∈ news, p.1 ≠ D) → Q (.ref D) (st s h' tk'))) E (st s h tk')) :
    wpAny W.M c.A (eval (.ListComp elt [⟨.Name x px, iter, [], 0⟩] scope pos) c.env) Q E (st s h tk') := by
  rw [eval_ListComp]
  refine wpAny_comprehension_free (use := none) rfl hs hclos hkind hnames (wpAny_mono hit (fun xv s₁ h₁ => ?_) fun _ _ e => e)
  obtain ⟨ax, ns, h₁, tk₁, news, rfl, rfl, F, N, T, hsz, turn, hq⟩ := h₁
  obtain ⟨l, k, a1, a2, a3⟩ : ∃ l k, IsT h₁ ax l.toArray k ∧ IntsAre l (asI ns) ∧ ((IsT g ax l.toArray k) ∨ (ax, tupOf l) ∈ news) := by
    rcases T with ⟨l, k, h1, h2⟩ | ⟨vs, h1, h2⟩
    · exact ⟨l, k, (S.G.X.keeps F.keep) _ _ h1, h2, .inl (S.G.X _ _ h1)⟩
    · exact ⟨vs, 0, (N _ h2).1, h1, .inr h2⟩
  have hlen : l.length = ns.length := by rw [a2.length, List.length_map]
  have hl : (st s h₁ tk₁).heap.IsTuple ax l.toArray := ⟨_, a1, rfl, k, rfl⟩
  have hlt : ax < h₁.objs.size := Heap.lt_size a1
  refine wpAny_pyIter_tuple hl ?_
  have up : ∀ b o, h₁.get? b = some o → (h₁.push { cls := .type "tuple_iterator", data := .fields #[.ref ax, .int 0 0] }).get? b = some o := fun b o e => Heap.get?_push_of_some _ e
  have hS : ∀ {h' : Heap} {nw : Led}, (∀ b o, g.get? b = some o → h'.get? b = some o) → News g c.L h' nw → ((IsT g ax l.toArray k) ∨ (ax, tupOf l) ∈ nw) → h'.IsTuple ax l.toArray := fun hk N' z => by
    rcases z with z | z
    · exact ⟨_, hk _ _ z, rfl, k, rfl⟩
    · exact ⟨_, (N' _ z).1, rfl, 0, rfl⟩
  refine LCg.block_U (s₂ := st s (h₁.push { cls := .type "tuple_iterator", data := .fields #[.ref ax, .int 0 0] }) tk₁) (S := fun nw => (IsT g ax l.toArray k) ∨ (ax, tupOf l) ∈ nw) (Fin := fun ys nw => ∀ D h' tk', Fr g c.L h' m → News g c.L h' ((D, LCg.lst ys) :: nw) → LCg.Off1 D nw → Q (.ref D) (st s h' tk')) (Walks.tuple rfl h₁.objs.size ax (Nat.ne_of_lt hlt) l.toArray) (by rw [List.size_toArray, hlen, sizeLine_eq]; lia) (fun i h st => by obtain ⟨o, e, _⟩ := st.1; exact ⟨o, e⟩)
    (fun i h h' o nw st e e' k' N' z => ⟨by obtain ⟨o', q, r⟩ := st.1; rw [e] at q; cases q; exact ⟨o, e', r⟩, hS k' N' z⟩) hcell hkind hx ⟨⟨_, Heap.get?_push_size _ rfl, rfl, rfl⟩, hl.push _⟩ (fun b hb => ?_)
    (F.keeps up) (N.grown up) (Nat.ne_of_lt F.ns.lt) (next_is_new F) (fun p hp => Nat.ne_of_lt (Heap.lt_size (N p hp).1)) a3 (comp_rest (asI ns) R (by rw [List.size_toArray, hlen, List.length_map]) (fun i v _ hv => ?_) a3 (turn _) fun ys hR D h' tk F' N' off => ?_) ?_
  · show b < (h₁.push _).objs.size
    rw [Heap.size_push]
    rcases List.mem_cons.mp hb with rfl | hb
    · exact Nat.lt_succ_self _
    · rw [List.mem_singleton.mp hb]; exact Nat.lt_succ_of_lt hlt
  · obtain ⟨k, t, e, hk⟩ := IntsAre.at a2 i v (by simpa using hv)
    exact ⟨k, t, hk, e⟩
  · exact hq D ys h' tk hR F' N' (off1_mem off)
  · intro D C h tk m' ys news' F' N' o1 hn hC₀ hD₀ hCL hDL hCD offC fin
    refine ⟨m', hn, fun h'' hs'' => fin D h'' tk (F'.change hs'' hCL hC₀) (fun p hp => ?_) o1⟩
    refine ⟨hs''.extBut _ _ ?_ (N' p hp).1, (N' p hp).2⟩
    rcases List.mem_cons.mp hp with rfl | hp
    · exact Ne.symm hCD
    · exact offC p hp
end
theorem enter2 {W : Wd} {f : Addr} {qual : Str} {params : Arguments} {body : List Stmt} {scope : Scope} {vs : List Value} {n : Nat} {news : Led} {P : Value → Led → Prop}
    (hf : FnF W.K f qual params body scope)
    (hbind : ∀ name doc pm an cdv ct, bindArgs (fnOf name qual params body scope .none .none doc pm an cdv ct) ⟨vs, []⟩ = pure ((params.args.map (·.arg)).zip vs))
    (hkind : (((params.args.map (·.arg)).zip vs).all fun y => scope.names.lookup y.1 == some .local || scope.names.lookup y.1 == some .cell) = true) (hnd : ((cellsFrom 0 scope.names []).map (·.1)).Nodup)
    (hco : scope.isCoroutine = false) (hgen : scope.isGenerator = false) (hk : scope.kind = .function)
    (hb : ∀ (dp un : Nat) (gd : Option (List Code)) (L : Addr) (ccd : Value) (outer : List Env) (base g : Heap) (m : Str → Option Value) (s : Shared) (h : Heap) (tk : Nat) (cells : Led),
      Wk W base ⟨dp, un, gd, qual, scope, L, f, ccd, outer, cellsFrom (L + 1) scope.names []⟩ g scope n → Fr g L h m → News g L h (cells ++ news) →
      CellsAre (bindC (envOfC qual scope L f ccd).kindOf ((params.args.map (·.arg)).zip vs) fun _ => none) (cellsFrom (L + 1) scope.names []) cells → (∀ p ∈ news, p.1 < L) →
      wpAny W.M (Cx.A ⟨dp, un, gd, qual, scope, L, f, ccd, outer, cellsFrom (L + 1) scope.names []⟩) (execs body (Cx.env ⟨dp, un, gd, qual, scope, L, f, ccd, outer, cellsFrom (L + 1) scope.names []⟩))
        (Done ⟨dp, un, gd, qual, scope, L, f, ccd, outer, cellsFrom (L + 1) scope.names []⟩ g s P) (fun _ _ => False) (st s h tk)) : Ct W f vs (n + 1) news P := by
  intro c base g m s h tk Q E G F N hck room ret
  obtain ⟨name, oc, od, doc, pm, an, cdv, ct, osl, ho, hcd⟩ := hf
  obtain ⟨A₀, B⟩ := G.B
  refine wpAny_call ?_
  refine code_defC (K := W.K) (A₀ := A₀) (base := base) (outer := c.outer) (env := c.env) B F G.X N G.T rfl rfl hck ho hcd (by have := room.dp; show c.dp < 1000; lia) (.of_eq (hbind _ _ _ _ _ _)) hkind hnd (fun g' L' h₁ tk₁ cells FG F' N' X B' X' T' hlt => ?_) hco hgen hk
  have room' : Room ⟨c.dp + 1, c.un + 3, c.gd, qual, scope, L', f, cdv, c.env :: c.outer, cellsFrom (L' + 1) scope.names []⟩ n := by
    have r1 := room.dp; have r2 := room.un
    constructor <;> dsimp only <;> lia
  refine wpAny_mono (hb (c.dp + 1) (c.un + 3) c.gd L' cdv (c.env :: c.outer) base g' _ s h₁ tk₁ cells ⟨⟨⟨_, B'⟩, X', T'⟩, rfl, hk, room'⟩ F' N' X hlt) (fun fl s' hd => ?_) fun _ _ hh => hh.elim
  obtain ⟨h', tk', m', news', rfl, F2, N2, hp⟩ := hd
  exact leaveK_ F2 N2 fun F3 N3 => ret _ _ _ _ F3 N3 hp
structure Ce (sc : Scope) (x : Str) : Prop where
  at_ : sc.names.lookup x = some .cell
  no : (x == ("__debug__" : Str)) = false
section
variable {W : Wd} {base g h : Heap} {c : Cx} {sc : Scope} {n : Nat} {m : Str → Option Value} {news : Led} {s : Shared} {tk : Nat} {E : Value → Shared → Prop}
theorem z_cell {x : Str} {pos : Pos} {v : Value} {cc : Addr} {o : Obj} {Q : Value → Shared → Prop} (S : Wk W base c g sc n) (N : News g c.L h news) (k : Ce sc x) (hc : c.cl.lookup x = some cc) (hm : (cc, o) ∈ news) (hd : o.data = .cell (some v)) (hq : Q v (st s h tk)) :
    wpAny W.M c.A (eval (.Name x pos) c.env) Q E (st s h tk) :=
  nameX_C (s := st s h tk) N hc hm hd hq (by rw [S.cs]; exact S.kind) (by show c.cs.names.lookup x = _; rw [S.cs]; exact k.at_) k.no
theorem z_storeC {x : Str} {v : Value} {cc : Addr} {o : Obj} {v₀ : Option Value} {Q : Unit → Shared → Prop} (S : Wk W base c g sc n) (F : Fr g c.L h m) (N : News g c.L h news) (k : Ce sc x) (hc : c.cl.lookup x = some cc) (hm : (cc, o) ∈ news) (hd : o.data = .cell v₀)
    (hq : ∀ h' tk' o', Fr g c.L h' m → News g c.L h' (setA cc o' news) → o'.data = .cell (some v) → Q () (st s h' tk')) : wpAny W.M c.A (storeName c.env x v) Q E (st s h tk) :=
  storeX_C (s := st s h tk) (g := fun o' => setA cc o' news) F (news_front N hm) hc (.head fun p hp => of_decide_eq_true (List.mem_filter.mp hp).2) hd (fun h' o' F' N' hd' => hq h' tk o' F' N' hd') (by rw [S.cs]; exact S.kind) (by show c.cs.names.lookup x = _; rw [S.cs]; exact k.at_)
end
theorem many_len : many.length = 83 := by decide
theorem many_at' (i : Nat) : many[i % 83]? = some (many.getD (i % 83) 0) := by
  have h : i % 83 < many.length := by rw [many_len]; exact Nat.mod_lt _ (by decide)
  rw [List.getElem?_eq_getElem h, List.getD_eq_getElem?_getD, List.getElem?_eq_getElem h]; rfl
section
variable {W : Wd} {A : Ad} {news : Led}
theorem ct_lawStuff (KF : Kf W A) {v : Nat} {t : Tok} (hv : v < 2 ^ 40) :
    Ct W A.lawStuff [.int (v : Nat) t] 1 news (fun r l => ∃ D vs kk, r = .ref D ∧ IntsAre vs (asI (stuffP v)) ∧ (D, listOf vs.toArray kk) ∈ l ∧ (∀ p ∈ news, p ∈ l) ∧ (∀ p ∈ news, p.1 ≠ D)) := by
  with_reducible refine enter2 KF.d_lawStuff.fn (fun _ _ _ _ _ _ => by kernel_rfl) (by kernel_rfl) (of_decide_eq_true (by kernel_rfl)) (by kernel_rfl) (by kernel_rfl) (by kernel_rfl) ?_
  intro dp un gd L ccd outer base g m s h tk cells S F N X hlt
  have X' : CellsAre _ [(("many" : Str), L + 1 + 1), (("v" : Str), L + 1)] cells := X
  obtain ⟨o1, o2, rfl, d1, d2⟩ := X'.two
  have d2' : o2.data = .cell (some (.int (v : Nat) t)) := d2
  clear d2 X X'
  generalize hcx : (⟨dp, un, gd, "_law_stuff", dScope (defAt 59), L, A.lawStuff, ccd, outer, cellsFrom (L + 1) (dScope (defAt 59)).names []⟩ : Cx) = c at S
  have F0 : Fr g c.L h m := by rw [← hcx]; exact F
  have N0 : News g c.L h ([(L + 1 + 1, o1), (L + 1, o2)] ++ news) := by rw [← hcx]; exact N
  have hc_v : c.cl.lookup ("v" : Str) = some (L + 1) := by rw [← hcx]; rfl
  have hc_many : c.cl.lookup ("many" : Str) = some (L + 1 + 1) := by rw [← hcx]; rfl
  clear F N
  have kc_v : Ce (dScope (defAt 59)) "v" := ⟨by kernel_rfl, by kernel_rfl⟩
  have kc_many : Ce (dScope (defAt 59)) "many" := ⟨by kernel_rfl, by kernel_rfl⟩
  have kg_a : Gb (dScope (defAt 59)) "_law_LETTERS" := ⟨by kernel_rfl, by kernel_rfl⟩
  have kg_b : Gb (dScope (defAt 59)) "_law_SIGNS" := ⟨by kernel_rfl, by kernel_rfl⟩
  have kg_c : Gb (dScope (defAt 59)) "_law_FAR" := ⟨by kernel_rfl, by kernel_rfl⟩
  have kg_range : Gb (dScope (defAt 59)) "range" := ⟨by kernel_rfl, by kernel_rfl⟩
  have gg_a := KF.t_lawLetters.1
  have gg_b := KF.t_lawSigns.1
  have gg_c := KF.t_lawFar.1
  show wpAny _ _ (execs (_ :: _) _) _ _ _
  with_reducible
   refine x_assign ?_ (by k_dflt exact rfl)
   refine PySem.wpAny_BinOp ?_
   refine PySem.wpAny_BinOp ?_
   refine z_global ‹_› ‹_› ‹_› ‹_› ?_
   refine z_global ‹_› ‹_› ‹_› ‹_› ?_
   refine k_cat ‹_› ‹_› ‹_› (TI.k (Kf.t_lawLetters ‹_›).2) (TI.k (Kf.t_lawSigns ‹_›).2) (by first | with_reducible assumption | k_dflt decide) ?_; intro _ _ _ _ _ _ _ _ _
   refine z_global ‹_› ‹_› ‹_› ‹_› ?_
   refine k_cat ‹_› ‹_› ‹_› ‹_› (TI.k (Kf.t_lawFar ‹_›).2) (by first | with_reducible assumption | k_dflt decide) ?_; intro _ _ _ _ _ _ _ _ _
  rename_i q h₁ tk₁ news₁ F₁ N₁ T₁ sub₁ or₁ q₂ h₂ tk₂ news₂ F₂ N₂ T₂ sub₂ or₂
  have hm1 : (L + 1 + 1, o1) ∈ news₂ := sub₂ _ (sub₁ _ (.head _))
  have hm2 : (L + 1, o2) ∈ news₂ := sub₂ _ (sub₁ _ (.tail _ (.head _)))
  with_reducible refine z_storeC S F₂ N₂ kc_many hc_many hm1 d1 fun h₃ tk₃ o3 F₃ N₃ d3 => ?_
  have old : ∀ p ∈ news, p.1 ≠ L + 1 + 1 := fun p hp => Nat.ne_of_lt (Nat.lt_succ_of_lt (Nat.lt_succ_of_lt (hlt p hp)))
  have T₃ : TI W q₂ many (setA (L + 1 + 1) o3 news₂) := by
    rcases T₂ with T₂ | ⟨vs, i1, i2⟩
    · exact .inl T₂
    · refine .inr ⟨vs, i1, setA_old i2 (news_ne N₂ i2 hm1 fun e => ?_)⟩
      rw [← e] at d1
      cases d1
  have hv3 : (L + 1, o2) ∈ setA (L + 1 + 1) o3 news₂ := setA_old hm2 (Nat.ne_of_lt (Nat.lt_succ_self _))
  have hm3 : (L + 1 + 1, o3) ∈ setA (L + 1 + 1) o3 news₂ := setA_new
  have up3 : ∀ p ∈ news, p ∈ setA (L + 1 + 1) o3 news₂ := fun p hp => setA_old (sub₂ _ (sub₁ _ (.tail _ (.tail _ hp)))) (old p hp)
  generalize hN3 : setA (L + 1 + 1) o3 news₂ = news₃ at N₃ T₃ hv3 hm3 up3
  clear F₁ F₂ N₁ N₂ F0 N0 T₁ T₂ or₁ or₂ sub₁ sub₂
  with_reducible refine x_ret ?_
  refine LCg.ListComp_U (s := st s h₃ tk₃) (cl := [("v", L + 1), ("many", L + 1 + 1)]) F₃ (by rw [← hcx]; rfl) (of_decide_eq_true (by kernel_rfl)) (by kernel_rfl) (of_decide_eq_true (by kernel_rfl)) (by kernel_rfl) ?_ (fun _ => rfl)
  refine v_call (z_builtin (s := s) S F₃ kg_range KF.b_range boot_range (by decide) ?_)
  refine PyProof.Rows.callWith_type1 ?_ rfl rfl
  refine z_args (s := s) (PySem.wpAny_BinOp (z_cell S N₃ kc_v hc_v hv3 d2' (z_num fun t₅ tk₅ => n_mod (by decide) fun t₆ tk₆ => z_args0 ?_))) rfl
  refine z_range F₃ N₃ fun r h₄ tk₄ u₄ v₄ F₄ N₄ hr => ?_
  refine LCg.CompSrc.range (s₁ := st s h₄ tk₄) (n := v % 5) rfl F₄ N₄ (N₄ _ (.head _)).1 (small_one (by lia) (by lia) (by lia) (by lia)) (range_size _) (by rw [sizeLine_eq]; lia) fun g' => ?_
  refine comp_rest (asI (List.range (v % 5))) (fun k y => ∃ t, y = .int ((many.getD ((v / 5 + 31 * k.toNat) % 83) 0 : Nat) : Int) t) (by rw [List.length_map, List.length_range]) (fun i w hi hw => ?_) trivial ?_ (fun ys hR D h' tk F' N' off => ?_)
  · obtain ⟨t, rfl⟩ := hw
    refine ⟨(i : Int), t, ?_, by rw [Int.zero_add]⟩
    rw [List.getElem?_map, List.getElem?_range hi]; rfl
  · intro k t₇ C oC m₂ all h₅ tk₅ E' hk hC hx F₅ N₅ hCm hsub
    obtain ⟨j, hj, rfl⟩ := List.mem_map.mp hk
    have hj' : j < v % 5 := List.mem_range.mp hj
    have hva : (L + 1, o2) ∈ all := hsub _ (.tail _ hv3)
    have hma : (L + 1 + 1, o3) ∈ all := hsub _ (.tail _ hm3)
    refine PyProof.Rows.Subscript_ (kcf_cell N₅ rfl hma d3 ?_ (by rw [← hcx]; rfl) (by rw [← hcx]; rfl) (by decide))
    refine PySem.wpAny_BinOp (PySem.wpAny_BinOp (PySem.wpAny_BinOp (kcf_cell N₅ rfl hva d2' ?_ (by rw [← hcx]; rfl) (by rw [← hcx]; rfl) (by decide))))
    refine z_num (s := st s h₄ tk₄) (h := h₅) fun t₈ tk₈ => n_div (by decide) (by decide) fun t₉ tk₉ => ?_
    refine PySem.wpAny_BinOp (z_num (s := st s h₄ tk₄) (h := h₅) fun t₁₀ tk₁₀ => ?_)
    refine LCgL.ld_own (s := st (st s h₄ tk₄) h₅ tk₁₀) N₅ hCm hC hx ?_ (by rw [← hcx]; rfl) (by rw [← hcx]; rfl) (by decide)
    refine n_mul (s := st s h₄ tk₄) (h := h₅) (by decide) fun t₁₁ tk₁₁ => n_add fun t₁₂ tk₁₂ => z_num fun t₁₃ tk₁₃ => n_mod (by decide) fun t₁₄ tk₁₄ => ?_
    have T₅ : TI W q₂ many all := T₃.sub fun p hp => hsub p (.tail _ hp)
    exact k_item (s := st s h₄ tk₄) (tk' := tk₁₄) S F₅ N₅ T₅ (many_at' (v / 5 + 31 * j)) (by lia) (fun t₁₅ tk₁₅ => ⟨h₅, tk₁₅, rfl, F₅, N₅, t₁₅, by rw [Int.toNat_natCast]⟩) (by with_unfolding_all rfl) (by intro _; with_unfolding_all rfl)
  · refine z_done (s := s) (h := h') (tk := tk) F' N' ⟨D, ys, ys.length, rfl, ?_, .head _, fun p hp => .tail _ (.tail _ (up3 p hp)), fun p hp => ?_⟩
    · have := hR.asInts
      have e : (asI (List.range (v % 5))).map (fun k => many.getD ((v / 5 + 31 * k.toNat) % 83) 0) = stuffP v := by
        unfold stuffP asI
        rw [List.map_map]
        exact List.map_congr_left fun j _ => by simp
      rw [e] at this
      exact this
    · exact off1_mem off p (.tail _ (up3 p hp))
end
end Mine
end
section
open PySem PySem.W PySem.Calls PySem.Spec PyProof.Rows
set_option Elab.async false
set_option maxRecDepth 100000
set_option maxHeartbeats 2000000
namespace Mine
theorem mem_kp {S : List Addr} {news news' : Led} {q : Addr} {o : Obj} (h : (q, o) ∈ news) (k : Kp S news news') (hn : q ∉ S) : (q, o) ∈ news' := k _ h hn
def strsOf : List Value → List Str
  | .str x _ :: r => x :: strsOf r
  | _ => []
def allStr : List Value → Bool
  | [] => true
  | .str _ _ :: r => allStr r
  | _ => false
theorem strs_of : ∀ {vs : List Value}, allStr vs = true → StrsAre vs (strsOf vs)
  | [], _ => .nil
  | .str x t :: r, h => .cons x t (strs_of (vs := r) h)
  | .none :: _, h => by simp [allStr] at h
  | .bool _ :: _, h => by simp [allStr] at h
  | .int _ _ :: _, h => by simp [allStr] at h
  | .ref _ :: _, h => by simp [allStr] at h
  | .type _ :: _, h => by simp [allStr] at h
  | .builtin _ :: _, h => by simp [allStr] at h
  | .float _ _ :: _, h => by simp [allStr] at h
theorem strs_get : ∀ {vs : List Value} {ws : List Cs} {i : Nat} {x : Cs}, StrsAre vs (ws.map fun y => strS y) → ws[i]? = some x → ∃ t, vs[i]? = some (.str (strS x) t)
  | _, [], i, x, .nil, h => by simp at h
  | _, w :: r, 0, x, .cons _ t hs, h => by
    have : w = x := by simpa using h
    subst this
    exact ⟨t, rfl⟩
  | _, w :: r, i + 1, x, .cons _ t hs, h => by
    obtain ⟨u, hu⟩ := strs_get hs (i := i) (x := x) (by simpa using h)
    exact ⟨u, by simpa using hu⟩
def intsB : List Value → List Int → Bool
  | [], [] => true
  | .int n _ :: l, k :: r => n == k && intsB l r
  | _, _ => false
theorem intsAre_of : ∀ {l : List Value} {ns : List Int}, intsB l ns = true → IntsAre l ns
  | [], [], _ => .nil
  | .int n t :: l, k :: r, h => by
    simp only [intsB, Bool.and_eq_true, beq_iff_eq] at h
    obtain ⟨rfl, h⟩ := h
    exact .cons n t (intsAre_of h)
  | [], _ :: _, h => by simp [intsB] at h
  | .int _ _ :: _, [], h => by simp [intsB] at h
  | .none :: _, _, h => by simp [intsB] at h
  | .bool _ :: _, _, h => by simp [intsB] at h
  | .str _ _ :: _, _, h => by simp [intsB] at h
  | .ref _ :: _, _, h => by simp [intsB] at h
  | .type _ :: _, _, h => by simp [intsB] at h
  | .builtin _ :: _, _, h => by simp [intsB] at h
  | .float _ _ :: _, _, h => by simp [intsB] at h
def blanksS : List Cs := blanksP.map fun k => [k]
def numsS : List Cs := nums3.map (·.1)
def numsI : List Int := nums3.map (·.2)
section
variable {W : Wd} {A : Ad} {a : La} {b : Bw} {base g h : Heap} {c : Cx} {sc : Scope} {n : Nat} {m : Str → Option Value} {news : Led} {s : Shared} {tk' : Nat} {E : Value → Shared → Prop} {Q : Value → Shared → Prop} {t u : Tok} {ax : Addr}
theorem k_menuS {value slice : Expr} {i : Nat} {vs : List Value} {ws : List Cs} {x : Cs} (N : News g c.L h news) (H : (ax, tupOf vs) ∈ news) (hw : strsOf vs = ws.map fun y => strS y) (ha : allStr vs = true) (hi : ws[i]? = some x) (hb : i < 1000000)
    (hq : ∀ t tk', Q (.str (strS x) t) (st s h tk'))
    (hs : subscripted slice false (.ref ax) (.int (i : Nat) u) = operate [.ref ax, .int (i : Nat) u] (getItem (.ref ax) (.int (i : Nat) u))) (hg : ∀ r, letTemporaryGo value (.ref ax) r = pure ()) :
    wpAny W.M c.A (subscriptTail value slice (.ref ax) (.int (i : Nat) u)) Q E (st s h tk') := by
  have h1 := strs_of ha
  rw [hw] at h1
  obtain ⟨t, e⟩ := strs_get h1 hi
  exact k_itemV N H e hb (fun tk' => hq t tk') hs hg
theorem k_menuK {value slice : Expr} {i : Nat} {vs : List Value} {ws : List Cs} {x : Cs} {S' : List Addr} {news₀ : Led} (N : News g c.L h news) (H : (ax, tupOf vs) ∈ news₀) (hn : ax ∉ S') (K : Kp S' news₀ news) (hw : strsOf vs = ws.map fun y => strS y) (ha : allStr vs = true) (hi : ws[i]? = some x) (hb : i < 1000000)
    (hq : ∀ t tk', Q (.str (strS x) t) (st s h tk'))
    (hs : subscripted slice false (.ref ax) (.int (i : Nat) u) = operate [.ref ax, .int (i : Nat) u] (getItem (.ref ax) (.int (i : Nat) u))) (hg : ∀ r, letTemporaryGo value (.ref ax) r = pure ()) :
    wpAny W.M c.A (subscriptTail value slice (.ref ax) (.int (i : Nat) u)) Q E (st s h tk') := k_menuS N (K _ H hn) hw ha hi hb hq hs hg
theorem k_menuI {value slice : Expr} {i : Nat} {vs : List Value} {ns : List Int} {k : Int} (N : News g c.L h news) (H : (ax, tupOf vs) ∈ news) (hw : intsB vs ns = true) (hi : ns[i]? = some k) (hb : i < 1000000)
    (hq : ∀ t tk', Q (.int k t) (st s h tk'))
    (hs : subscripted slice false (.ref ax) (.int (i : Nat) u) = operate [.ref ax, .int (i : Nat) u] (getItem (.ref ax) (.int (i : Nat) u))) (hg : ∀ r, letTemporaryGo value (.ref ax) r = pure ()) :
    wpAny W.M c.A (subscriptTail value slice (.ref ax) (.int (i : Nat) u)) Q E (st s h tk') := by
  obtain ⟨t, e⟩ := IntsAre.get (intsAre_of hw) i k hi
  exact k_itemV N H e hb (fun tk' => hq t tk') hs hg
theorem b_tupM {vs : List Value} (F : Fr g c.L h m) (N : News g c.L h news) (B : BwS W a b news) (hz : vs.length ≤ 1000)
    (hq : ∀ q h' tk' news', Fr g c.L h' m → News g c.L h' news' → BwS W a b news' → (q, tupOf vs) ∈ news' → q ∉ a.S → Kp a.S news news' → Q (.ref q) (st s h' tk')) : wpAny W.M c.A (newTuple vs) Q E (st s h tk') :=
  z_tuple F N hz fun q h₁ tk₁ F₁ N₁ hne => hq q h₁ tk₁ _ F₁ N₁ (B.keep fun _ hp => .tail _ hp) (.head _) (B.fresh hne) Kp.push
theorem b_list1 {k : Nat} (F : Fr g c.L h m) (N : News g c.L h news) (B : BwS W a b news)
    (hq : ∀ q h' tk' news', Fr g c.L h' m → News g c.L h' news' → BwS W a b news' → IntsAt q [k] news' → q ∉ a.S → Kp a.S news news' → Q (.ref q) (st s h' tk')) : wpAny W.M c.A (newList [.int (k : Nat) t]) Q E (st s h tk') :=
  z_list F N (by simp) fun q h₁ tk₁ F₁ N₁ hne => hq q h₁ tk₁ _ F₁ N₁ (B.keep fun _ hp => .tail _ hp) ⟨_, .cons _ t .nil, .inl ⟨0, .head _⟩⟩ (B.fresh hne) Kp.push
theorem b_list2 {k l : Nat} (F : Fr g c.L h m) (N : News g c.L h news) (B : BwS W a b news)
    (hq : ∀ q h' tk' news', Fr g c.L h' m → News g c.L h' news' → BwS W a b news' → IntsAt q [k, l] news' → q ∉ a.S → Kp a.S news news' → Q (.ref q) (st s h' tk')) : wpAny W.M c.A (newList [.int (k : Nat) t, .int (l : Nat) u]) Q E (st s h tk') :=
  z_list F N (by simp) fun q h₁ tk₁ F₁ N₁ hne => hq q h₁ tk₁ _ F₁ N₁ (B.keep fun _ hp => .tail _ hp) ⟨_, .cons _ t (.cons _ u .nil), .inl ⟨0, .head _⟩⟩ (B.fresh hne) Kp.push
theorem u_lawRun {v : Nat} (S : Wk W base c g sc n) (F : Fr g c.L h m) (N : News g c.L h news) (KF : Kf W A) (B : BwS W a b news) (hv : v < 2 ^ 40) (hn : 1 ≤ n)
    (hq : ∀ t h' tk' news', Fr g c.L h' m → News g c.L h' news' → BwS W a b news' → Kp a.S news news' → Q (.str (strS (runP v)) t) (st s h' tk')) : wpAny W.M c.A (call (.ref A.lawRun) [.int (v : Nat) t]) Q E (st s h tk') :=
  z_use S F N (ct_lawRun KF hv) hn fun r l h' tk' F' N' p => by obtain ⟨⟨t, rfl⟩, k⟩ := p; exact hq t h' tk' l F' N' (B.keep k) (Kp.of k)
theorem u_lawStuff {v : Nat} (S : Wk W base c g sc n) (F : Fr g c.L h m) (N : News g c.L h news) (KF : Kf W A) (B : BwS W a b news) (hv : v < 2 ^ 40) (hn : 1 ≤ n)
    (hq : ∀ D vs kk h' tk' news', Fr g c.L h' m → News g c.L h' news' → IntsAre vs (asI (stuffP v)) → (D, listOf vs.toArray kk) ∈ news' → BwS W a b news' → D ∉ a.S → Kp a.S news news' → Q (.ref D) (st s h' tk')) : wpAny W.M c.A (call (.ref A.lawStuff) [.int (v : Nat) t]) Q E (st s h tk') :=
  z_use S F N (ct_lawStuff KF hv) hn fun r l h' tk' F' N' p => by
    obtain ⟨D, vs, kk, rfl, h1, h2, h3, h4⟩ := p
    exact hq D vs kk h' tk' l F' N' h1 h2 (B.keep h3) (B.fresh h4) (Kp.of h3)
theorem u_lawStrange {codes : Cs} (S : Wk W base c g sc n) (F : Fr g c.L h m) (N : News g c.L h news) (KF : Kf W A) (B : BwS W a b news) (H : IntsAt ax codes news) (hax : ax ∉ a.S) (hc : ∀ k ∈ codes, k < 1114112) (hz : b.toks.length ≤ 100000) (hnm : b.name.length ≤ 900000)
    (hxl : b.text.length + codes.length ≤ 100000) (hfl : b.flts.length + codes.length ≤ 100000) (hn : 4 ≤ n)
    (hq : ∀ h' tk' news', Fr g c.L h' m → News g c.L h' news' → BwS W a (wStrange b codes) news' → Kp a.S news news' → Q .none (st s h' tk')) : wpAny W.M c.A (call (.ref A.lawStrange) [.ref a.d, .ref ax]) Q E (st s h tk') :=
  z_use S F N (ct_lawStrange KF B H hax hc hz hnm hxl hfl) hn fun r l h' tk' F' N' p => by obtain ⟨rfl, B', K'⟩ := p; exact hq h' tk' l F' N' B' K'
theorem b_comp {y : Str} {px py pf pa pc pos : Pos} {scope : Scope} {vs : List Value} {kk : Nat} {ks : Cs} (S : Wk W base c g sc n) (F : Fr g c.L h m) (N : News g c.L h news) (KF : Kf W A) (B : BwS W a b news) (ky : Lc sc y) (hy : m y = some (.ref ax)) (hax : (ax, listOf vs.toArray kk) ∈ news) (hi : IntsAre vs (asI ks))
    (hsz : ks.length ≤ 100000) (hk : ∀ k ∈ ks, k < 1114112)
    (hclos : closureFor scope c.env = pure []) (hcell : ∀ y ∈ scope.names, y.2 ≠ .cell) (hkind : scope.kind = .function)
    (hnames : ∀ y ∈ scope.names, y.2 = .local → scope.names.lookup y.1 = some .local) (hx : scope.names.lookup ("code" : Str) = some .local)
    (h1 : (relabel scope c.env).kind = .function) (h2 : (relabel scope c.env).names.lookup ("code" : Str) = some .local) (h3 : (relabel scope c.env).names.lookup ("chr" : Str) = some .globalImplicit)
    (hq : ∀ U h' tk' news', Fr g c.L h' m → News g c.L h' news' → GL U ks ks.length news' → BwS W a b news' → Kp a.S news news' → Q (.ref U) (st s h' tk')) :
    wpAny W.M c.A (eval (.ListComp (.Call (.Name "chr" pf) [.Name "code" pa] [] pc) [⟨.Name "code" px, .Name y py, [], 0⟩] scope pos) c.env) Q E (st s h tk') := by
  refine comp_list (cl := []) _ S F N ky hy hax hi (by unfold asI; rw [List.length_map]; exact hsz) hclos hcell hkind hnames hx (fun sx => turn_chr S KF hk h1 h2 h3 (by decide)) fun D ys h' tk' hR F' N' hne => ?_
  have hl : ys.length = ks.length := by
    have : ∀ {R : Int → Value → Prop} {ys : List Value} {ks : List Int}, AllR R ys ks → ys.length = ks.length := by
      intro R ys ks h
      induction h with
      | nil => rfl
      | cons _ _ ih => rw [List.length_cons, List.length_cons, ih]
    rw [this hR, List.length_map]
  exact hq D h' tk' _ F' N' ⟨ys, ys.length, .head _, hR.strs, Nat.le_of_eq hl⟩ (B.keep fun _ hp => .tail _ hp) Kp.push
end
theorem words_at (i : Nat) : wordsP[i % 12]? = some (wordsP.getD (i % 12) []) := by
  have h : i % 12 < wordsP.length := Nat.mod_lt _ (by decide)
  rw [List.getElem?_eq_getElem h, List.getD_eq_getElem?_getD, List.getElem?_eq_getElem h]; rfl
theorem mixed_at (i : Nat) : mixedP[i % 5]? = some (mixedP.getD (i % 5) []) := by
  have h : i % 5 < mixedP.length := Nat.mod_lt _ (by decide)
  rw [List.getElem?_eq_getElem h, List.getD_eq_getElem?_getD, List.getElem?_eq_getElem h]; rfl
theorem name_fact {n : Cs} (h : IsName n) : ∃ e, n[0]? = some e := by
  obtain ⟨c, r, rfl, _⟩ := h.start
  exact ⟨c, rfl⟩
theorem words_len (i : Nat) : (wordsP.getD (i % 12) []).length ≤ 10 := by
  have : wordsP.all (fun w => decide (w.length ≤ 10)) = true := by decide
  exact of_decide_eq_true (List.all_eq_true.mp this _ (getD_memL (Nat.mod_lt _ (by decide))))
theorem mixed_len (i : Nat) : (mixedP.getD (i % 5) []).length ≤ 10 := by
  have : mixedP.all (fun w => decide (w.length ≤ 10)) = true := by decide
  exact of_decide_eq_true (List.all_eq_true.mp this _ (getD_memL (Nat.mod_lt _ (by decide))))
theorem run_len (v : Nat) : (runP v).length ≤ 10 := by
  unfold runP
  rw [List.length_cons, List.length_map, List.length_range]
  lia
theorem nums_at (i : Nat) : numsS[i % 3]? = some (nums3.getD (i % 3) ([], 0)).1 ∧ numsI[i % 3]? = some (nums3.getD (i % 3) ([], 0)).2 ∧ (nums3.getD (i % 3) ([], 0)).1.length ≤ 2 ∧ ∃ e, (nums3.getD (i % 3) ([], 0)).1[0]? = some e := by
  have h : i % 3 < 3 := Nat.mod_lt _ (by decide)
  match i % 3, h with
  | 0, _ => exact ⟨rfl, rfl, by decide, _, rfl⟩
  | 1, _ => exact ⟨rfl, rfl, by decide, _, rfl⟩
  | 2, _ => exact ⟨rfl, rfl, by decide, _, rfl⟩
theorem signs_at (i : Nat) : signs[i % 27]? = some (signs.getD (i % 27) 0) := by
  have h : i % 27 < signs.length := Nat.mod_lt _ (by decide)
  rw [List.getElem?_eq_getElem h, List.getD_eq_getElem?_getD, List.getElem?_eq_getElem h]; rfl
theorem far_at (i : Nat) : far[i % 10]? = some (far.getD (i % 10) 0) := by
  have h : i % 10 < far.length := Nat.mod_lt _ (by decide)
  rw [List.getElem?_eq_getElem h, List.getD_eq_getElem?_getD, List.getElem?_eq_getElem h]; rfl
theorem many_lt : ∀ k ∈ many, k < 1114112 := by
  have : many.all (fun k => decide (k < 1114112)) = true := by decide +kernel
  exact fun k hk => of_decide_eq_true (List.all_eq_true.mp this k hk)
theorem signs_lt (i : Nat) : signs.getD (i % 27) 0 < 1114112 := many_lt _ (by
  unfold many
  exact List.mem_append.mpr (.inl (List.mem_append.mpr (.inr (getD_mem (Nat.mod_lt _ (by decide)))))))
theorem far_lt (i : Nat) : far.getD (i % 10) 0 < 1114112 := many_lt _ (by
  unfold many
  exact List.mem_append.mpr (.inr (getD_mem (Nat.mod_lt _ (by decide)))))
theorem lit64_34 : Str.ofString "@\"" = strS [64, 34] := by decide
theorem lit47_47 : Str.ofString "//" = strS [47, 47] := by decide
theorem lit47_42 : Str.ofString "/*" = strS [47, 42] := by decide
theorem lit_vend : Str.ofString "\"\"\n\" " = strS [34, 34, 10, 34, 32] := by decide
theorem lit34_10 : Str.ofString "\"\n" = strS [34, 10] := by decide
theorem lit10 : Str.ofString "\n" = strS [10] := by decide
theorem lit8232 : Str.ofString "\u2028" = strS [8232] := by decide
theorem lit_signs : Str.ofString ";,(){}[]~:" = strS oneSigns := by decide
section
variable {W : Wd} {A : Ad} {a : La} {b : Bw} {base g h : Heap} {c : Cx} {sc : Scope} {n : Nat} {m : Str → Option Value} {news : Led} {s : Shared} {tk' : Nat} {E : Value → Shared → Prop} {Q : Value → Shared → Prop} {t u : Tok} {ax bx : Addr} {ns ms : Cs}
theorem z_addSR {x p : Cs} {y : Str} {A : Around} (hy : y = strS p) (hl : x.length + p.length ≤ 1000000) (hq : ∀ t tk', Q (.str (strS (x ++ p)) t) (st s h tk')) : wpAny W.M A (binaryOp .Add (.str (strS x) t) (.str y u)) Q E (st s h tk') := by
  subst hy; exact z_addS hl hq
theorem b_cat (S : Wk W base c g sc n) (F : Fr g c.L h m) (N : News g c.L h news) (B : BwS W a b news) (H : TI W ax ns news) (K : TI W bx ms news) (hsz : ns.length + ms.length ≤ 100000)
    (hq : ∀ q h' tk' news' (_ : Unit), Fr g c.L h' m → News g c.L h' news' → TI W q (ns ++ ms) news' → BwS W a b news' → Kp a.S news news' → Q (.ref q) (st s h' tk')) :
    wpAny W.M c.A (binaryOp .Add (.ref ax) (.ref bx)) Q E (st s h tk') :=
  k_cat S F N H K hsz fun q h' tk' news' F' N' T k _ => hq q h' tk' news' () F' N' T (B.keep k) (Kp.of k)
theorem n_itemL {value slice : Expr} {cs : Cs} {y : Str} {i k : Nat} {A : Around} (hy : y = strS cs) (hi : cs[i]? = some k) (hl : cs.length ≤ 100000) (hq : ∀ t tk', Q (.str (strS [k]) t) (st s h tk'))
    (hs : subscripted slice false (.str y t) (.int (i : Nat) u) = operate [.str y t, .int (i : Nat) u] (getItem (.str y t) (.int (i : Nat) u))) :
    wpAny W.M A (subscriptTail value slice (.str y t) (.int (i : Nat) u)) Q E (st s h tk') := by
  subst hy; exact n_item hi hl hq hs
theorem d_itemL {value slice : Expr} {cs : Cs} {y : Str} {i k : Nat} {A : Around} (hy : y = strS cs) (hi : cs[i]? = some k) (hl : cs.length ≤ 100000) (hq : Q (.str (strS [k]) tk') (st s h (tk' + 1)))
    (hs : subscripted slice false (.str y t) (.int (i : Nat) u) = operate [.str y t, .int (i : Nat) u] (getItem (.str y t) (.int (i : Nat) u))) :
    wpAny W.M A (subscriptTail value slice (.str y t) (.int (i : Nat) u)) Q E (st s h tk') := by
  subst hy; exact d_item hi hl hq hs
theorem z_tail_drop {value slice : Expr} {cs p : Cs} {i : Nat} {ui : Tok} (F : Fr g c.L h m) (N : News g c.L h news) (hp : cs.drop i = p) (h1 : i ≤ cs.length) (hl : cs.length ≤ 100000)
    (hs : subscripted slice false (.str (strS cs) t) (.ref h.objs.size) = operate [.ref h.objs.size, .str (strS cs) t] (getItem (.str (strS cs) t) (.ref h.objs.size)))
    (ht : ∀ r, letTemporaryGo value (.str (strS cs) t) r = pure ())
    (hq : ∀ t' h' tk', Fr g c.L h' m → News g c.L h' news → Q (.str (strS p) t') (st s h' tk')) :
    wpAny W.M c.A (subscriptTail value slice (.str (strS cs) t) (.ref h.objs.size)) Q E (st s (h.push (sliceOb (.int (i : Nat) ui) .none)) tk') := by
  subst hp; exact z_tail_s F N h1 hl hs ht hq
theorem k_menu3 {value slice : Expr} {t1 t2 t3 : Tok} {x y z : Cs} {i : Nat} (N : News g c.L h news) (H : (ax, tupOf [.str (strS x) t1, .str (strS y) t2, .str (strS z) t3]) ∈ news) (hi : i < 3) (hq : ∀ t tk', Q (.str (strS (([x, y, z] : List Cs).getD i [])) t) (st s h tk'))
    (hs : subscripted slice false (.ref ax) (.int (i : Nat) u) = operate [.ref ax, .int (i : Nat) u] (getItem (.ref ax) (.int (i : Nat) u))) (hg : ∀ r, letTemporaryGo value (.ref ax) r = pure ()) :
    wpAny W.M c.A (subscriptTail value slice (.ref ax) (.int (i : Nat) u)) Q E (st s h tk') := by
  have : ∃ t, ([Value.str (strS x) t1, .str (strS y) t2, .str (strS z) t3] : List Value)[i]? = some (.str (strS (([x, y, z] : List Cs).getD i [])) t) := by
    match i, hi with
    | 0, _ => exact ⟨_, rfl⟩
    | 1, _ => exact ⟨_, rfl⟩
    | 2, _ => exact ⟨_, rfl⟩
  obtain ⟨t, e⟩ := this
  exact k_itemV N H e (by lia) (fun tk' => hq t tk') hs hg
theorem k_menu2 {value slice : Expr} {t1 t2 : Tok} {x y : Cs} {i : Nat} (N : News g c.L h news) (H : (ax, tupOf [.str (strS x) t1, .str (strS y) t2]) ∈ news) (hi : i < 2) (hq : ∀ t tk', Q (.str (strS (([x, y] : List Cs).getD i [])) t) (st s h tk'))
    (hs : subscripted slice false (.ref ax) (.int (i : Nat) u) = operate [.ref ax, .int (i : Nat) u] (getItem (.ref ax) (.int (i : Nat) u))) (hg : ∀ r, letTemporaryGo value (.ref ax) r = pure ()) :
    wpAny W.M c.A (subscriptTail value slice (.ref ax) (.int (i : Nat) u)) Q E (st s h tk') := by
  have : ∃ t, ([Value.str (strS x) t1, .str (strS y) t2] : List Value)[i]? = some (.str (strS (([x, y] : List Cs).getD i [])) t) := by
    match i, hi with
    | 0, _ => exact ⟨_, rfl⟩
    | 1, _ => exact ⟨_, rfl⟩
  obtain ⟨t, e⟩ := this
  exact k_itemV N H e (by lia) (fun tk' => hq t tk') hs hg
theorem u_lawUnits {vs : List Value} {kk : Nat} {news₀ : Led} {S' : List Addr} (S : Wk W base c g sc n) (F : Fr g c.L h m) (N : News g c.L h news) (KF : Kf W A) (B : BwS W a b news) (H : (ax, listOf vs.toArray kk) ∈ news₀) (hi : IntsAre vs (asI ns)) (hn : ax ∉ S') (K : Kp S' news₀ news)
    (hc : ∀ k ∈ ns, k < 1114112) (hl : ns.length ≤ 1000) (h1 : 1 ≤ n)
    (hq : ∀ t h' tk' news', Fr g c.L h' m → News g c.L h' news' → BwS W a b news' → Kp a.S news news' → Q (.str (strS (units ns)) t) (st s h' tk')) : wpAny W.M c.A (call (.ref A.lawUnits) [.ref ax]) Q E (st s h tk') :=
  z_use S F N (ct_lawUnits KF ⟨vs, hi, .inl ⟨kk, K _ H hn⟩⟩ hc hl) h1 fun r l h' tk' F' N' p => by obtain ⟨⟨t, rfl⟩, k⟩ := p; exact hq t h' tk' l F' N' (B.keep k) (Kp.of k)
theorem u_lawNumber7 (S : Wk W base c g sc n) (F : Fr g c.L h m) (N : News g c.L h news) (KF : Kf W A) (B : BwS W a b news) (hxl : b.text.length + ([55] : Cs).length + 1 ≤ 100000) (hnl : b.name.length + ([55] : Cs).length ≤ 1000000) (hz : b.toks.length ≤ 100000) (hn : 2 ≤ n)
    (hq : ∀ h' tk' news', Fr g c.L h' m → News g c.L h' news' → BwS W a (wNumber b [55] 7) news' → Kp a.S news news' → Q .none (st s h' tk')) : wpAny W.M c.A (call (.ref A.lawNumber) [.ref a.d, .str (Str.ofString "7") t, .int ((7 : Nat) : Int) u]) Q E (st s h tk') := by
  rw [lit55]
  exact u_lawNumber (e := 55) S F N KF B rfl (Nat.le_of_ble_eq_true rfl) hxl hnl hz hn hq
end
theorem stuff_len (v : Nat) : (stuffP v).length ≤ 4 := by
  unfold stuffP
  rw [List.length_map, List.length_range]; lia
theorem ones_at (i : Nat) : oneSigns[i % 10]? = some (oneSigns.getD (i % 10) 0) := by
  have h : i % 10 < oneSigns.length := Nat.mod_lt _ (by decide)
  rw [List.getElem?_eq_getElem h, List.getD_eq_getElem?_getD, List.getElem?_eq_getElem h]; rfl
theorem blanks_at (i : Nat) : blanksS[i % 6]? = some [blanksP.getD (i % 6) 0] := by
  have h : i % 6 < 6 := Nat.mod_lt _ (by decide)
  match i % 6, h with
  | 0, _ => rfl
  | 1, _ => rfl
  | 2, _ => rfl
  | 3, _ => rfl
  | 4, _ => rfl
  | 5, _ => rfl
abbrev shut (b : Bw) : Bw := { wEnd b with number := false }
theorem sf_len : (signs ++ far).length = 37 := by decide
theorem sf_at (i : Nat) : (signs ++ far)[i % 37]? = some ((signs ++ far).getD (i % 37) 0) := by
  have h : i % 37 < (signs ++ far).length := by rw [sf_len]; exact Nat.mod_lt _ (by decide)
  rw [List.getElem?_eq_getElem h, List.getD_eq_getElem?_getD, List.getElem?_eq_getElem h]; rfl
theorem sf_lt (i : Nat) : (signs ++ far).getD (i % 37) 0 < 1114112 := many_lt _ (by
  have := getD_mem (l := signs ++ far) (i := i % 37) (by rw [sf_len]; exact Nat.mod_lt _ (by decide))
  unfold many
  rw [List.append_assoc]
  exact List.mem_append.mpr (.inr this))

theorem mod3 (i : Nat) : i % 3 = 0 ∨ i % 3 = 1 ∨ i % 3 = 2 := by
  have h : i % 3 < 3 := Nat.mod_lt _ (by decide)
  match i % 3, h with
  | 0, _ => exact .inl rfl
  | 1, _ => exact .inr (.inl rfl)
  | 2, _ => exact .inr (.inr rfl)
theorem ad {a b m n k : Nat} (h1 : a ≤ m) (h2 : b ≤ n) (h : Nat.ble (m + n) k = true) : a + b ≤ k := Nat.le_trans (Nat.add_le_add h1 h2) (Nat.le_of_ble_eq_true h)
theorem upto {a m k : Nat} (h1 : a ≤ m) (h : Nat.ble m k = true) : a ≤ k := Nat.le_trans h1 (Nat.le_of_ble_eq_true h)
theorem apl {α : Type} {x y : List α} {m n : Nat} (h1 : x.length ≤ m) (h2 : y.length ≤ n) : (x ++ y).length ≤ m + n := by rw [List.length_append]; exact Nat.add_le_add h1 h2
theorem apr {α : Type} (x y : List α) : x.length ≤ (x ++ y).length := by rw [List.length_append]; exact Nat.le_add_right _ _
inductive LitStrs : List Expr → List Str → Prop
  | nil : LitStrs [] []
  | cons {x : Str} {kk : Nat} {p : Pos} {r : List Expr} {ws : List Str} : LitStrs r ws → LitStrs (.Constant (.str x) kk p :: r) (x :: ws)
theorem strs_len : ∀ {vs : List Value}, allStr vs = true → (strsOf vs).length = vs.length
  | [], _ => rfl
  | .str _ _ :: r, h => congrArg (· + 1) (strs_len (vs := r) h)
  | .none :: _, h => by simp [allStr] at h
  | .bool _ :: _, h => by simp [allStr] at h
  | .int _ _ :: _, h => by simp [allStr] at h
  | .ref _ :: _, h => by simp [allStr] at h
  | .type _ :: _, h => by simp [allStr] at h
  | .builtin _ :: _, h => by simp [allStr] at h
  | .float _ _ :: _, h => by simp [allStr] at h
section
variable {W : Wd} {A : Ad} {a : La} {b : Bw} {base g h : Heap} {c : Cx} {sc : Scope} {n : Nat} {m : Str → Option Value} {news : Led} {s : Shared} {tk : Nat} {E : Value → Shared → Prop} {t : Tok}
theorem args_strs {M : Model} {Ar : Around} {env : Env} {pos : Pos} {es : List Expr} {ws : List Str} (he : LitStrs es ws) : ∀ {tk : Nat} {Q : List Value → Shared → Prop}, (∀ vs tk', strsOf vs = ws → allStr vs = true → Q vs (st s h tk')) →
    wpAny M Ar (spliced (backTo pos (starEach es env))) Q E (st s h tk) := by
  induction he with
  | nil => exact fun hq => z_args0 (hq [] _ rfl rfl)
  | cons _ ih => exact fun hq => z_args (d_str (ih fun vs tk' e1 e2 => hq (.str _ _ :: vs) tk' (congrArg _ e1) e2)) rfl
theorem b_tupS {es : List Expr} {ws : List Str} {kt : Nat} {pos : Pos} {Q : Value → Shared → Prop} (F : Fr g c.L h m) (N : News g c.L h news) (B : BwS W a b news) (he : LitStrs es ws) (hz : Nat.ble ws.length 100 = true)
    (hq : ∀ q vs h' tk' news', Fr g c.L h' m → News g c.L h' news' → BwS W a b news' → (q, tupOf vs) ∈ news' → q ∉ a.S → Kp a.S news news' → strsOf vs = ws → allStr vs = true → Q (.ref q) (st s h' tk')) :
    wpAny W.M c.A (eval (.Tuple es kt pos) c.env) Q E (st s h tk) :=
  PyProof.Rows.Tuple_ (args_strs he fun vs tk' h1 h2 => b_tupM F N B (by rw [← strs_len h2, h1]; exact Nat.le_trans (Nat.le_of_ble_eq_true hz) (by decide)) fun q h' tk'' news' F' N' B' hq' hn K => hq q vs h' tk'' news' F' N' B' hq' hn K h1 h2)
theorem x_ifEq {x : Str} {i n' kk : Nat} {xp kp cp pos : Pos} {body orelse rest : List Stmt} {Q : Flow → Shared → Prop} (S : Wk W base c g sc n) (F : Fr g c.L h m) (k : Lc sc x) (hm : m x = some (.int (i : Nat) t))
    (h1 : decide (i = @OfNat.ofNat Nat n' (instOfNatNat n')) = true → wpAny W.M c.A (execs (body ++ rest) c.env) Q E (st s h (tk + 1))) (h0 : decide (i = @OfNat.ofNat Nat n' (instOfNatNat n')) = false → wpAny W.M c.A (execs (orelse ++ rest) c.env) Q E (st s h (tk + 1))) :
    wpAny W.M c.A (execs (.If (.Compare (.Name x xp) [.Eq] [.Constant (.int (@OfNat.ofNat Int n' _)) kk kp] cp) body orelse pos :: rest) c.env) Q E (st s h tk) :=
  x_if (t_cmp (z_local S F k hm (d_num (n_eq ⟨_, rfl, h1, h0⟩))))
theorem x_ifEq0 {x : Str} {i n' kk : Nat} {xp kp cp pos : Pos} {body orelse : List Stmt} {Q : Flow → Shared → Prop} (S : Wk W base c g sc n) (F : Fr g c.L h m) (k : Lc sc x) (hm : m x = some (.int (i : Nat) t))
    (h1 : decide (i = @OfNat.ofNat Nat n' (instOfNatNat n')) = true → wpAny W.M c.A (execs body c.env) Q E (st s h (tk + 1))) (h0 : decide (i = @OfNat.ofNat Nat n' (instOfNatNat n')) = false → wpAny W.M c.A (execs orelse c.env) Q E (st s h (tk + 1))) :
    wpAny W.M c.A (execs (.If (.Compare (.Name x xp) [.Eq] [.Constant (.int (@OfNat.ofNat Int n' _)) kk kp] cp) body orelse pos :: []) c.env) Q E (st s h tk) :=
  x_ifEq S F k hm (fun f => by rw [List.append_nil]; exact h1 f) (fun f => by rw [List.append_nil]; exact h0 f)
end
end Mine
end
section
open PySem PySem.W PySem.Calls PySem.Spec PyProof.Rows
set_option Elab.async false
set_option maxRecDepth 100000
set_option maxHeartbeats 2000000
namespace Mine
def els : List Stmt → List Stmt
  | .If _ _ o _ :: _ => o
  | l => l
def wM15 (b : Bw) (u : Nat) : Bw :=
  if u % 3 < 2 then
    wName { wPut b [64] [] [] with begin := b.text.length, marked := true } (if u % 3 = 0 then runP (u / 3) else wordsP.getD (u / 3 % 12) [])
  else
    if u / 3 % 2 = 0 then wStrange (wPut b [64] [] [fltD 1646 b.text.length []]) [(signs ++ far).getD (u / 6 % 37) 0]
    else wNumber (wPut b [64] [] [fltD 1646 b.text.length []]) [55] 7
def wM14 (b : Bw) (k u : Nat) : Bw := if k = 14 then
    (if u % 3 = 0 then wPut b (47 :: 47 :: (stuffP u ++ [10])) [] []
     else if u % 3 = 1 then wPut b (47 :: 47 :: (stuffP u ++ [8232])) [] []
     else wPut b (47 :: 42 :: (stuffP u ++ [42, 47])) [] []) else wM15 b u
def wM13 (b : Bw) (k u : Nat) : Bw := if k = 13 then
    wPut b [39, many.getD (u % 83) 0, 39] [tokD 5 (.int (if 65535 < many.getD (u % 83) 0 then 0 else many.getD (u % 83) 0)) b.text.length] (if 65535 < many.getD (u % 83) 0 then [fltD 1012 b.text.length []] else []) else wM14 b k u
def wM12 (b : Bw) (k u : Nat) : Bw := if k = 12 then wPut b (64 :: 34 :: (stuffP u ++ [34, 34, 10, 34, 32])) [tokD 4 (strD (units (stuffP u) ++ [34, 10])) b.text.length] [] else wM13 b k u
def wM11 (b : Bw) (k u : Nat) : Bw := if k = 11 then wPut b (34 :: (stuffP u ++ [34])) [tokD 4 (strD (units (stuffP u))) b.text.length] [] else wM12 b k u
def wM10 (b : Bw) (k u : Nat) : Bw := if k = 10 then wPut b [blanksP.getD (u % 6) 0] [] [] else wM11 b k u
def wM9 (b : Bw) (k u : Nat) : Bw := if k = 9 then wPut b [oneSigns.getD (u % 10) 0] [tokD 6 (strD [oneSigns.getD (u % 10) 0]) b.text.length] [] else wM10 b k u
def wS8 (b : Bw) (k u : Nat) : Bw := if k = 8 then wStrange b [far.getD (u % 10) 0, far.getD (u / 10 % 10) 0] else wM9 (shut b) k u
def wS7 (b : Bw) (k u : Nat) : Bw := if k = 7 then wStrange b [signs.getD (u % 27) 0] else wS8 b k u
def wS6 (b : Bw) (k u : Nat) : Bw := if k = 6 then wNumber b (nums3.getD (u % 3) ([], 0)).1 (nums3.getD (u % 3) ([], 0)).2 else wS7 b k u
def wS5 (b : Bw) (k u : Nat) : Bw := if k = 5 then wName b (mixedP.getD (u % 5) []) else wS6 b k u
def wS4 (b : Bw) (k u : Nat) : Bw := if k = 4 then wName b (wordsP.getD (u % 12) []) else wS5 b k u
def wS3 (b : Bw) (k u : Nat) : Bw := if k < 4 then wName b (runP u) else wS4 b k u
theorem wPiece_S (b : Bw) (v : Nat) : wPiece b v = wS3 b (v % 16) (v / 16) := rfl
structure PcH (W : Wd) (A : Ad) (a : La) (b : Bw) (k u z : Nat) (base g h : Heap) (c : Cx) (m : Str → Option Value) (news₀ news : Led) : Prop where
  S : Wk W base c g (dScope (defAt 60)) 5
  KF : Kf W A
  F : Fr g c.L h m
  N : News g c.L h news
  B : BwS W a b news
  K : Kp a.S news₀ news
  text : b.text.length ≤ z
  name : b.name.length ≤ z
  toks : b.toks.length ≤ z
  flts : b.flts.length ≤ z
  hu : u < 2 ^ 40
  w : m ("w" : Str) = some (.ref a.d)
  sort : ∃ t, m ("sort" : Str) = some (.int (k : Nat) t)
  v : ∃ t, m ("v" : Str) = some (.int (u : Nat) t)
  words : ∃ q vs, m ("words" : Str) = some (.ref q) ∧ (q, tupOf vs) ∈ news ∧ q ∉ a.S ∧ strsOf vs = (wordsP.map fun y => strS y) ∧ allStr vs = true
structure PeH (W : Wd) (A : Ad) (a : La) (b : Bw) (k u z : Nat) (base g h : Heap) (c : Cx) (m : Str → Option Value) (news₀ news : Led) : Prop extends PcH W A a b k u z base g h c m news₀ news where
  at_ : ∃ t, m ("at" : Str) = some (.int (b.text.length : Nat) t)
  stuff : ∃ D vs kk, m ("stuff" : Str) = some (.ref D) ∧ (D, listOf vs.toArray kk) ∈ news ∧ D ∉ a.S ∧ IntsAre vs (asI (stuffP u))
  plain : ∃ t, m ("plain" : Str) = some (.str (strS (stuffP u)) t)
def rows9 : List Stmt := (dBody (defAt 60)).drop 14
theorem k60_sort : Lc (dScope (defAt 60)) "sort" := ⟨by kernel_rfl, by kernel_rfl⟩
theorem put_f (b : Bw) (x : Cs) (y : List Dat) : wPut b x y [] = { b with text := b.text ++ x, toks := b.toks ++ y } := by unfold wPut; rw [List.append_nil]
theorem put_n (b : Bw) (x : Cs) : wPut b x [] [] = { b with text := b.text ++ x } := by rw [put_f, List.append_nil]
theorem put_t (b : Bw) (x : Cs) (z : List Dat) : wPut b x [] z = { b with text := b.text ++ x, flts := b.flts ++ z } := by unfold wPut; rw [List.append_nil]
theorem len1 (x : Nat) : ([x] : Cs).length ≤ 1 := Nat.le_refl 1
section
variable {W : Wd} {A : Ad} {a : La} {b : Bw} {k u : Nat} {base g h : Heap} {c : Cx} {m : Str → Option Value} {news₀ news : Led} {s : Shared} {tk : Nat}
theorem PcH.stuff_lt {u k : Nat} (h : k ∈ stuffP u) : k < 1114112 := many_lt k (stuff_many h)
theorem pe15 (H : PeH W A a b k u 95000 base g h c m news₀ news) : PcG W a (wM15 b u) c g s news₀ (els (els (els (els (els (els rows9)))))) h tk := by
  have S := H.S
  have KF := H.KF
  have F := H.F
  have N := H.N
  have B := H.B
  have K₀ := H.K
  have hm_w := H.w
  obtain ⟨t2, hm_v⟩ := H.v
  obtain ⟨t3, hm_at⟩ := H.at_
  have x1 : b.text.length + ([64] : Cs).length ≤ 1000000 := ad H.text (len1 64) rfl
  have kl_w : Lc (dScope (defAt 60)) "w" := ⟨by kernel_rfl, by kernel_rfl⟩
  have kl_v : Lc (dScope (defAt 60)) "v" := ⟨by kernel_rfl, by kernel_rfl⟩
  have kl_at : Lc (dScope (defAt 60)) "at" := ⟨by kernel_rfl, by kernel_rfl⟩
  show wpAny _ _ (execs (_ :: _) _) _ _ _
  with_reducible
   refine x_augS ?_ (by k_dflt (intros; rfl))
   refine z_local ‹_› ‹_› ‹_› (by tb_start) ?_
   refine d_str ?_
   refine b_gtext ‹_› ‹_› ?_; intro _ _
   refine d_str ?_
   refine d_iaddL lit64 (by first | with_reducible assumption | lia) ?_
   refine b_setText ‹_› ‹_› ‹_› ?_; intro _ _ _ _ _ _ _
  rename_i h₁ tk₁ l₁ F₁ N₁ B₁ K₁
  have K₂ := K₀.trans K₁
  clear K₀ F N B
  have f1 : (b.text ++ [64]).length ≤ 95001 := apl H.text (len1 64)
  by_cases hlt : u % 3 < 2
  · rw [show wM15 b u = wName ((((b.tx (b.text ++ [64])).bg b.text.length).mk₂ true)) (([runP (u / 3), wordsP.getD (u / 3 % 12) []] : List Cs).getD (u % 3) []) by
      unfold wM15
      rw [if_pos hlt, put_n]
      have h3 : u % 3 = 0 ∨ u % 3 = 1 := (mod3 u).elim .inl fun q => q.elim .inr fun q => absurd hlt (by rw [q]; decide)
      rcases h3 with h3 | h3 <;> rw [h3] <;> rfl]
    obtain ⟨q, vs, hm_words, hq, hqn, hw1, hw2⟩ := H.words
    have hXX : (([runP (u / 3), wordsP.getD (u / 3 % 12) []] : List Cs).getD (u % 3) []).length ≤ 10 ∧ ∃ e, (([runP (u / 3), wordsP.getD (u / 3 % 12) []] : List Cs).getD (u % 3) [])[0]? = some e := by
      have h3 : u % 3 = 0 ∨ u % 3 = 1 := (mod3 u).elim .inl fun q => q.elim .inr fun q => absurd hlt (by rw [q]; decide)
      rcases h3 with h3 | h3 <;> rw [h3]
      · exact ⟨run_len _, name_fact (run_isName _)⟩
      · exact ⟨words_len _, name_fact (word_isName _)⟩
    obtain ⟨hXl, e, he⟩ := hXX
    have hi := words_at (u / 3)
    have hv3 : u / 3 < 2 ^ 40 := Nat.lt_of_le_of_lt (Nat.div_le_self u 3) H.hu
    have x2 : (([runP (u / 3), wordsP.getD (u / 3 % 12) []] : List Cs).getD (u % 3) []).length ≤ 100000 := upto hXl rfl
    have x3 : (b.text ++ [64]).length + (([runP (u / 3), wordsP.getD (u / 3 % 12) []] : List Cs).getD (u % 3) []).length + 1 ≤ 100000 := ad (Nat.add_le_add f1 hXl) (Nat.le_refl 1) rfl
    have x4 : b.name.length + (([runP (u / 3), wordsP.getD (u / 3 % 12) []] : List Cs).getD (u % 3) []).length ≤ 1000000 := ad H.name hXl rfl
    have t20 : decide (u % 3 < 2) = true := decide_eq_true hlt
    have hq₁ := mem_kp hq K₁ hqn
    have kl_words : Lc (dScope (defAt 60)) "words" := ⟨by kernel_rfl, by kernel_rfl⟩
    have kg_law_name : Gb (dScope (defAt 60)) "_law_name" := ⟨by kernel_rfl, by kernel_rfl⟩
    have kk_law_name := KF.d_lawName.keep
    have gg_law_name := KF.g_lawName
    have kg_law_run : Gb (dScope (defAt 60)) "_law_run" := ⟨by kernel_rfl, by kernel_rfl⟩
    have kk_law_run := KF.d_lawRun.keep
    have gg_law_run := KF.g_lawRun
    with_reducible
     refine x_if ?_
     refine t_cmp ?_
     refine e_binN ‹_› ‹_› ‹_› (by tb_start) ?_
     refine d_mod (by decide) ?_
     refine d_num ?_
     refine n_lt ?_
     refine Exists.intro _ (And.intro rfl ?_)
     refine dec_tt ‹_› ?_
     refine x_app ?_
     refine x_assignS ?_ (by k_dflt exact rfl)
     refine z_local ‹_› ‹_› ‹_› (by tb_start) ?_
     refine z_local ‹_› ‹_› ‹_› (by tb_start) ?_
     refine d_str ?_
     refine b_setBegin ‹_› ‹_› ‹_› ?_; intro _ _ _ _ _ _ _
     refine x_app ?_
     refine x_assignS ?_ (by k_dflt exact rfl)
     refine z_bool ?_
     refine z_local ‹_› ‹_› ‹_› (by tb_start) ?_
     refine d_str ?_
     refine b_setMarked ‹_› ‹_› ‹_› ?_; intro _ _ _ _ _ _ _
     refine x_app ?_
     refine z_expr ‹_› ?_ (by k_dflt exact rfl)
     refine e_callNE ‹_› ‹_› ‹_› ‹_› ‹_› ‹_› (by tb_start) ?_ (by k_dflt exact rfl)
     refine PyProof.Rows.Subscript_ ?_
     refine PyProof.Rows.Tuple_ ?_
     refine z_args ?_ (by k_dflt exact rfl)
     refine e_callE ‹_› ‹_› ‹_› ‹_› ‹_› ?_ (by k_dflt exact rfl)
     refine e_binN ‹_› ‹_› ‹_› (by tb_start) ?_
     refine d_div (by decide) (by decide) ?_
     refine And.intro (Exists.intro _ ‹_›) ?_
     refine u_lawRun ‹_› ‹_› ‹_› ‹_› ‹_› ‹_› (by k_dflt decide) ?_; intro _ _ _ _ _ _ _ _
     refine z_args ?_ (by k_dflt exact rfl)
     refine PyProof.Rows.Subscript_ ?_
     refine z_local ‹_› ‹_› ‹_› (by tb_start) ?_
     refine PySem.wpAny_BinOp ?_
     refine e_binN ‹_› ‹_› ‹_› (by tb_start) ?_
     refine d_div (by decide) (by decide) ?_
     refine d_num ?_
     refine d_mod (by decide) ?_
     refine k_menuK (ws := wordsP) ‹_› ‹_› ‹_› (by lcg_sub) (by first | with_reducible assumption | k_dflt kernel_rfl) (by first | with_reducible assumption | k_dflt kernel_rfl) ‹_› (by lia) ?_ (by with_unfolding_all rfl) (by intro _; with_unfolding_all rfl); intro _ _
     refine z_args0 ?_
     refine b_tupM ‹_› ‹_› ‹_› (by k_dflt exact Nat.le_of_ble_eq_true rfl) ?_; intro _ _ _ _ _ _ _ _ _ _
     refine e_binN ‹_› ‹_› ‹_› (by tb_start) ?_
     refine d_mod (by decide) ?_
     refine kba_turn (value' := Expr.Name (Str.ofString "_") ⟨0, 0, 0, 0⟩) (by intro _; with_unfolding_all rfl) ?_
     refine k_menu2 ‹_› ‹_› (by lia) ?_ (by with_unfolding_all rfl) (by intro _; with_unfolding_all rfl); intro _ _
     refine And.intro (Exists.intro _ ‹_›) ?_
     refine u_lawName ‹_› ‹_› ‹_› ‹_› ‹_› ‹_› ‹_› ‹_› ‹_› (by k_dflt decide) ?_; intro _ _ _ _ _ _ _
     refine x_app0 ?_
     refine x_nil ?_
     refine z_end ‹_› ‹_› ?_
    exact ⟨rfl, by assumption, by lcg_sub⟩
  have t20 : decide (u % 3 < 2) = false := decide_eq_false hlt
  have z5 : b.flts.length ≤ 100000 := upto H.flts rfl
  by_cases heven : u / 3 % 2 = 0
  · rw [show wM15 b u = wStrange ((b.tx (b.text ++ [64])).pr (fltD 1646 b.text.length [])) [(signs ++ far).getD (u / 6 % 37) 0] by
      unfold wM15
      rw [if_neg hlt, if_pos heven, put_t]]
    have hi := sf_at (u / 6)
    have hc : ∀ k ∈ ([(signs ++ far).getD (u / 6 % 37) 0] : Cs), k < 1114112 := fun k hk => by rw [List.mem_singleton.mp hk]; exact sf_lt _
    have x2 : (b.text ++ [64]).length + ([(signs ++ far).getD (u / 6 % 37) 0] : Cs).length ≤ 100000 := ad f1 (len1 _) rfl
    have x3 : (b.flts ++ [Dat.tuple [.int ((1646 : Nat) : Int), .int ((b.text.length : Nat) : Int), .tuple []]]).length + ([(signs ++ far).getD (u / 6 % 37) 0] : Cs).length ≤ 100000 := ad (apl H.flts (Nat.le_refl 1)) (len1 _) rfl
    have x4 : b.name.length ≤ 900000 := upto H.name rfl
    have z4 : b.toks.length ≤ 100000 := upto H.toks rfl
    have t21 : decide (u / 3 % 2 = 0) = true := decide_eq_true heven
    have kg_law_strange : Gb (dScope (defAt 60)) "_law_strange" := ⟨by kernel_rfl, by kernel_rfl⟩
    have kk_law_strange := KF.d_lawStrange.keep
    have gg_law_strange := KF.g_lawStrange
    have kg_law_SIGNS : Gb (dScope (defAt 60)) "_law_SIGNS" := ⟨by kernel_rfl, by kernel_rfl⟩
    have gg_law_SIGNS := KF.t_lawSigns.1
    have kg_law_FAR : Gb (dScope (defAt 60)) "_law_FAR" := ⟨by kernel_rfl, by kernel_rfl⟩
    have gg_law_FAR := KF.t_lawFar.1
    with_reducible
     refine x_if ?_
     refine t_cmp ?_
     refine e_binN ‹_› ‹_› ‹_› (by tb_start) ?_
     refine d_mod (by decide) ?_
     refine d_num ?_
     refine n_lt ?_
     refine Exists.intro _ (And.intro rfl ?_)
     refine dec_ff ‹_› ?_
     refine x_app ?_
     refine z_expr ‹_› ?_ (by k_dflt exact rfl)
     refine PyProof.Rows.MethodCall_ ?_ (by k_dflt exact rfl)
     refine b_faults ‹_› ‹_› ‹_› ‹_› ‹_› (by tb_start) ?_; intro _
     refine b_appR ‹_› ‹_› ?_
     refine PyProof.Rows.callWith_method1 ?_ (by k_dflt exact rfl) (by k_dflt exact rfl)
     refine z_args ?_ (by k_dflt exact rfl)
     refine PyProof.Rows.Tuple_ ?_
     refine z_args ?_ (by k_dflt exact rfl)
     refine d_num ?_
     refine z_args ?_ (by k_dflt exact rfl)
     refine z_local ‹_› ‹_› ‹_› (by tb_start) ?_
     refine z_args ?_ (by k_dflt exact rfl)
     refine PyProof.Rows.Tuple_ ?_
     refine z_args0 ?_
     refine b_tup ‹_› ‹_› ‹_› (aparts_nil) (by k_dflt exact Nat.le_of_ble_eq_true rfl) ?_; intro _ _ _ _ _ _ _ _ _
     refine z_args0 ?_
     refine b_tup ‹_› ‹_› ‹_› (aparts_cons Apart.int (aparts_cons Apart.int (aparts_cons ‹_› aparts_nil))) (by k_dflt exact Nat.le_of_ble_eq_true rfl) ?_; intro _ _ _ _ _ _ _ _ _
     refine z_args0 ?_
     refine call_app1 ?_
     refine b_pushR ‹_› ‹_› ‹_› ‹_› ‹_› ?_; intro _ _ _ _ _ _ _
     refine x_app ?_
     refine x_if ?_
     refine t_cmp ?_
     refine PySem.wpAny_BinOp ?_
     refine e_binN ‹_› ‹_› ‹_› (by tb_start) ?_
     refine d_div (by decide) (by decide) ?_
     refine d_num ?_
     refine d_mod (by decide) ?_
     refine d_num ?_
     refine n_eq ?_
     refine Exists.intro _ (And.intro rfl ?_)
     refine dec_tt ‹_› ?_
     refine x_app ?_
     refine z_expr ‹_› ?_ (by k_dflt exact rfl)
     refine e_callNE ‹_› ‹_› ‹_› ‹_› ‹_› ‹_› (by tb_start) ?_ (by k_dflt exact rfl)
     refine PyProof.Rows.List_ ?_
     refine z_args ?_ (by k_dflt exact rfl)
     refine PyProof.Rows.Subscript_ ?_
     refine PySem.wpAny_BinOp ?_
     refine z_global ‹_› ‹_› ‹_› ‹_› ?_
     refine z_global ‹_› ‹_› ‹_› ‹_› ?_
     refine b_cat ‹_› ‹_› ‹_› ‹_› (TI.k (Kf.t_lawSigns ‹_›).2) (TI.k (Kf.t_lawFar ‹_›).2) (by first | with_reducible assumption | k_dflt decide) ?_; intro _ _ _ _ _ _ _ _ _ _
     refine PySem.wpAny_BinOp ?_
     refine e_binN ‹_› ‹_› ‹_› (by tb_start) ?_
     refine d_div (by decide) (by decide) ?_
     refine d_num ?_
     refine d_mod (by decide) ?_
     refine kba_turn (value' := Expr.Name (Str.ofString "_") ⟨0, 0, 0, 0⟩) (by intro _; with_unfolding_all rfl) ?_
     refine k_item ‹_› ‹_› ‹_› ‹_› ‹_› (by first | with_reducible assumption | lia) ?_ (by with_unfolding_all rfl) (by intro _; with_unfolding_all rfl); intro _ _
     refine z_args0 ?_
     refine b_list1 ‹_› ‹_› ‹_› ?_; intro _ _ _ _ _ _ _ _ _ _
     refine And.intro (Exists.intro _ ‹_›) ?_
     refine u_lawStrange ‹_› ‹_› ‹_› ‹_› ‹_› ‹_› ‹_› ‹_› ‹_› ‹_› ‹_› ‹_› (by k_dflt decide) ?_; intro _ _ _ _ _ _ _
     refine x_app0 ?_
     refine x_app0 ?_
     refine x_nil ?_
     refine z_end ‹_› ‹_› ?_
    exact ⟨rfl, by assumption, by lcg_sub⟩
  · rw [show wM15 b u = wNumber ((b.tx (b.text ++ [64])).pr (fltD 1646 b.text.length [])) [55] 7 by
      unfold wM15
      rw [if_neg hlt, if_neg heven, put_t]]
    have x2 : (b.text ++ [64]).length + ([55] : Cs).length + 1 ≤ 100000 := ad (Nat.add_le_add f1 (len1 55)) (Nat.le_refl 1) rfl
    have x4 : b.name.length + ([55] : Cs).length ≤ 1000000 := ad H.name (len1 55) rfl
    have z4 : b.toks.length ≤ 100000 := upto H.toks rfl
    have t21 : decide (u / 3 % 2 = 0) = false := decide_eq_false heven
    have kg_law_number : Gb (dScope (defAt 60)) "_law_number" := ⟨by kernel_rfl, by kernel_rfl⟩
    have kk_law_number := KF.d_lawNumber.keep
    have gg_law_number := KF.g_lawNumber
    with_reducible
     refine x_if ?_
     refine t_cmp ?_
     refine e_binN ‹_› ‹_› ‹_› (by tb_start) ?_
     refine d_mod (by decide) ?_
     refine d_num ?_
     refine n_lt ?_
     refine Exists.intro _ (And.intro rfl ?_)
     refine dec_ff ‹_› ?_
     refine x_app ?_
     refine z_expr ‹_› ?_ (by k_dflt exact rfl)
     refine PyProof.Rows.MethodCall_ ?_ (by k_dflt exact rfl)
     refine b_faults ‹_› ‹_› ‹_› ‹_› ‹_› (by tb_start) ?_; intro _
     refine b_appR ‹_› ‹_› ?_
     refine PyProof.Rows.callWith_method1 ?_ (by k_dflt exact rfl) (by k_dflt exact rfl)
     refine z_args ?_ (by k_dflt exact rfl)
     refine PyProof.Rows.Tuple_ ?_
     refine z_args ?_ (by k_dflt exact rfl)
     refine d_num ?_
     refine z_args ?_ (by k_dflt exact rfl)
     refine z_local ‹_› ‹_› ‹_› (by tb_start) ?_
     refine z_args ?_ (by k_dflt exact rfl)
     refine PyProof.Rows.Tuple_ ?_
     refine z_args0 ?_
     refine b_tup ‹_› ‹_› ‹_› (aparts_nil) (by k_dflt exact Nat.le_of_ble_eq_true rfl) ?_; intro _ _ _ _ _ _ _ _ _
     refine z_args0 ?_
     refine b_tup ‹_› ‹_› ‹_› (aparts_cons Apart.int (aparts_cons Apart.int (aparts_cons ‹_› aparts_nil))) (by k_dflt exact Nat.le_of_ble_eq_true rfl) ?_; intro _ _ _ _ _ _ _ _ _
     refine z_args0 ?_
     refine call_app1 ?_
     refine b_pushR ‹_› ‹_› ‹_› ‹_› ‹_› ?_; intro _ _ _ _ _ _ _
     refine x_app ?_
     refine x_if ?_
     refine t_cmp ?_
     refine PySem.wpAny_BinOp ?_
     refine e_binN ‹_› ‹_› ‹_› (by tb_start) ?_
     refine d_div (by decide) (by decide) ?_
     refine d_num ?_
     refine d_mod (by decide) ?_
     refine d_num ?_
     refine n_eq ?_
     refine Exists.intro _ (And.intro rfl ?_)
     refine dec_ff ‹_› ?_
     refine x_app ?_
     refine z_expr ‹_› ?_ (by k_dflt exact rfl)
     refine v_call ?_
     refine z_global ‹_› ‹_› ‹_› ‹_› ?_
     refine z_call ‹_› ‹_› ?_ (by k_dflt exact rfl) (by k_dflt exact rfl)
     refine z_args ?_ (by k_dflt exact rfl)
     refine z_local ‹_› ‹_› ‹_› (by tb_start) ?_
     refine z_args ?_ (by k_dflt exact rfl)
     refine d_str ?_
     refine z_args ?_ (by k_dflt exact rfl)
     refine d_num ?_
     refine z_args0 ?_
     refine And.intro (Exists.intro _ ‹_›) ?_
     refine u_lawNumber7 ‹_› ‹_› ‹_› ‹_› ‹_› ‹_› ‹_› ‹_› (by k_dflt decide) ?_; intro _ _ _ _ _ _ _
     refine x_app0 ?_
     refine x_app0 ?_
     refine x_nil ?_
     refine z_end ‹_› ‹_› ?_
    exact ⟨rfl, by assumption, by lcg_sub⟩
theorem pe14 (H : PeH W A a b k u 95000 base g h c m news₀ news) : PcG W a (wM14 b k u) c g s news₀ (els (els (els (els (els rows9))))) h tk := by
  obtain ⟨t₀, hm_sort⟩ := H.sort
  show wpAny _ _ (execs (_ :: _) _) _ _ _
  with_reducible refine x_ifEq0 H.S H.F k60_sort hm_sort (fun f => ?_) (fun f => ?_)
  · have h3 : u % 3 = 0 ∨ u % 3 = 1 ∨ u % 3 = 2 := mod3 u
    rw [show wM14 b k u = { b with text := b.text ++ (([[47, 47] ++ stuffP u ++ [10], [47, 47] ++ stuffP u ++ [8232], [47, 42] ++ stuffP u ++ [42, 47]] : List Cs).getD (u % 3) []) } by
      unfold wM14
      rw [if_pos (of_decide_eq_true f), put_n, put_n, put_n]
      rcases h3 with h3 | h3 | h3 <;> rw [h3] <;> rfl]
    have S := H.S
    have KF := H.KF
    have F := H.F
    have N := H.N
    have B := H.B
    have K₀ := H.K
    have hm_w := H.w
    obtain ⟨t2, hm_v⟩ := H.v
    obtain ⟨t4, hm_plain⟩ := H.plain
    have kl_w : Lc (dScope (defAt 60)) "w" := ⟨by kernel_rfl, by kernel_rfl⟩
    have kl_v : Lc (dScope (defAt 60)) "v" := ⟨by kernel_rfl, by kernel_rfl⟩
    have kl_plain : Lc (dScope (defAt 60)) "plain" := ⟨by kernel_rfl, by kernel_rfl⟩
    have hl := stuff_len u
    have hr : ((([[47, 47] ++ stuffP u ++ [10], [47, 47] ++ stuffP u ++ [8232], [47, 42] ++ stuffP u ++ [42, 47]] : List Cs).getD (u % 3) [])).length ≤ 8 := by
      rcases h3 with h3 | h3 | h3 <;> rw [h3]
      · exact upto (apl (apl (Nat.le_refl 2) hl) (Nat.le_refl 1)) rfl
      · exact upto (apl (apl (Nat.le_refl 2) hl) (Nat.le_refl 1)) rfl
      · exact upto (apl (apl (Nat.le_refl 2) hl) (Nat.le_refl 2)) rfl
    have x1 : ([47, 47] : Cs).length + (stuffP u).length ≤ 1000000 := ad (Nat.le_refl 2) hl rfl
    have x2 : ([47, 47] ++ stuffP u : Cs).length + ([10] : Cs).length ≤ 1000000 := ad (apl (Nat.le_refl 2) hl) (Nat.le_refl 1) rfl
    have x3 : ([47, 47] ++ stuffP u : Cs).length + ([8232] : Cs).length ≤ 1000000 := ad (apl (Nat.le_refl 2) hl) (Nat.le_refl 1) rfl
    have x4 : ([47, 42] : Cs).length + (stuffP u).length ≤ 1000000 := ad (Nat.le_refl 2) hl rfl
    have x5 : ([47, 42] ++ stuffP u : Cs).length + ([42, 47] : Cs).length ≤ 1000000 := ad (apl (Nat.le_refl 2) hl) (Nat.le_refl 2) rfl
    have x6 : b.text.length + ((([[47, 47] ++ stuffP u ++ [10], [47, 47] ++ stuffP u ++ [8232], [47, 42] ++ stuffP u ++ [42, 47]] : List Cs).getD (u % 3) [])).length ≤ 1000000 := ad H.text hr rfl
    with_reducible
     refine x_augS ?_ (by k_dflt (intros; rfl))
     refine z_local ‹_› ‹_› ‹_› (by tb_start) ?_
     refine d_str ?_
     refine b_gtext ‹_› ‹_› ?_; intro _ _
     refine PyProof.Rows.Subscript_ ?_
     refine PyProof.Rows.Tuple_ ?_
     refine z_args ?_ (by k_dflt exact rfl)
     refine PySem.wpAny_BinOp ?_
     refine PySem.wpAny_BinOp ?_
     refine d_str ?_
     refine z_local ‹_› ‹_› ‹_› (by tb_start) ?_
     refine d_addSL lit47_47 (by first | with_reducible assumption | lia) ?_
     refine d_str ?_
     refine d_addSR lit10 (by first | with_reducible assumption | lia) ?_
     refine z_args ?_ (by k_dflt exact rfl)
     refine PySem.wpAny_BinOp ?_
     refine PySem.wpAny_BinOp ?_
     refine d_str ?_
     refine z_local ‹_› ‹_› ‹_› (by tb_start) ?_
     refine d_addSL lit47_47 (by first | with_reducible assumption | lia) ?_
     refine d_str ?_
     refine d_addSR lit8232 (by first | with_reducible assumption | lia) ?_
     refine z_args ?_ (by k_dflt exact rfl)
     refine PySem.wpAny_BinOp ?_
     refine PySem.wpAny_BinOp ?_
     refine d_str ?_
     refine z_local ‹_› ‹_› ‹_› (by tb_start) ?_
     refine d_addSL lit47_42 (by first | with_reducible assumption | lia) ?_
     refine d_str ?_
     refine d_addSR lit42_47 (by first | with_reducible assumption | lia) ?_
     refine z_args0 ?_
     refine b_tupM ‹_› ‹_› ‹_› (by k_dflt exact Nat.le_of_ble_eq_true rfl) ?_; intro _ _ _ _ _ _ _ _ _ _
     refine e_binN ‹_› ‹_› ‹_› (by tb_start) ?_
     refine d_mod (by decide) ?_
     refine kba_turn (value' := Expr.Name (Str.ofString "_") ⟨0, 0, 0, 0⟩) (by intro _; with_unfolding_all rfl) ?_
     refine k_menu3 ‹_› ‹_› (by lia) ?_ (by with_unfolding_all rfl) (by intro _; with_unfolding_all rfl); intro _ _
     refine d_iaddS (by first | with_reducible assumption | lia) ?_
     refine b_setText ‹_› ‹_› ‹_› ?_; intro _ _ _ _ _ _ _
     refine x_nil ?_
     refine z_end ‹_› ‹_› ?_
    exact ⟨rfl, by assumption, by lcg_sub⟩
  · rw [show wM14 b k u = _ from if_neg (of_decide_eq_false f)]; exact pe15 H
theorem pe13 (H : PeH W A a b k u 95000 base g h c m news₀ news) : PcG W a (wM13 b k u) c g s news₀ (els (els (els (els rows9)))) h tk := by
  obtain ⟨t₀, hm_sort⟩ := H.sort
  show wpAny _ _ (execs (_ :: _) _) _ _ _
  with_reducible refine x_ifEq0 H.S H.F k60_sort hm_sort (fun f => ?_) (fun f => ?_)
  · rw [show wM13 b k u = wPut b [39, many.getD (u % 83) 0, 39] [tokD 5 (.int (if 65535 < many.getD (u % 83) 0 then 0 else many.getD (u % 83) 0)) b.text.length] (if 65535 < many.getD (u % 83) 0 then [fltD 1012 b.text.length []] else []) from if_pos (of_decide_eq_true f)]
    have S := H.S
    have KF := H.KF
    have F := H.F
    have N := H.N
    have B := H.B
    have K₀ := H.K
    have hm_w := H.w
    obtain ⟨t2, hm_v⟩ := H.v
    obtain ⟨t3, hm_at⟩ := H.at_
    have kl_w : Lc (dScope (defAt 60)) "w" := ⟨by kernel_rfl, by kernel_rfl⟩
    have kl_v : Lc (dScope (defAt 60)) "v" := ⟨by kernel_rfl, by kernel_rfl⟩
    have kl_at : Lc (dScope (defAt 60)) "at" := ⟨by kernel_rfl, by kernel_rfl⟩
    have kl_code : Lc (dScope (defAt 60)) "code" := ⟨by kernel_rfl, by kernel_rfl⟩
    have kg_chr : Gb (dScope (defAt 60)) "chr" := ⟨by kernel_rfl, by kernel_rfl⟩
    have kg_law_SIGNS : Gb (dScope (defAt 60)) "_law_SIGNS" := ⟨by kernel_rfl, by kernel_rfl⟩
    have gg_law_SIGNS := KF.t_lawSigns.1
    have kg_law_FAR : Gb (dScope (defAt 60)) "_law_FAR" := ⟨by kernel_rfl, by kernel_rfl⟩
    have gg_law_FAR := KF.t_lawFar.1
    have kg_TK_CHAR : Gb (dScope (defAt 60)) "TK_CHAR" := ⟨by kernel_rfl, by kernel_rfl⟩
    obtain ⟨ti_TK_CHAR, gg_TK_CHAR⟩ := KF.i_TK_CHAR
    have kg_law_LETTERS : Gb (dScope (defAt 60)) "_law_LETTERS" := ⟨by kernel_rfl, by kernel_rfl⟩
    have gg_law_LETTERS := KF.t_lawLetters.1
    have hi : (letters ++ signs ++ far)[u % 83]? = some (many.getD (u % 83) 0) := many_at' u
    have hmk : many.getD (u % 83) 0 < 1114112 := many_lt _ (getD_mem (by rw [many_len]; exact Nat.mod_lt _ (by decide)))
    have x1 : ([39] : Cs).length + ([many.getD (u % 83) 0] : Cs).length ≤ 1000000 := ad (len1 39) (len1 _) rfl
    have x2 : ([39] ++ [many.getD (u % 83) 0] : Cs).length + ([39] : Cs).length ≤ 1000000 := ad (apl (len1 39) (len1 _)) (len1 39) rfl
    have x3 : b.text.length + ([39] ++ [many.getD (u % 83) 0] ++ [39] : Cs).length ≤ 1000000 := ad H.text (apl (apl (len1 39) (len1 _)) (len1 39)) rfl
    have z4 : b.toks.length ≤ 100000 := upto H.toks rfl
    have z5 : b.flts.length ≤ 100000 := upto H.flts rfl
    focus with_reducible
     refine x_assign ?_ (by k_dflt exact rfl)
     refine PyProof.Rows.Subscript_ ?_
     refine PySem.wpAny_BinOp ?_
     refine PySem.wpAny_BinOp ?_
     refine z_global ‹_› ‹_› ‹_› ‹_› ?_
     refine z_global ‹_› ‹_› ‹_› ‹_› ?_
     refine b_cat ‹_› ‹_› ‹_› ‹_› (TI.k (Kf.t_lawLetters ‹_›).2) (TI.k (Kf.t_lawSigns ‹_›).2) (by first | with_reducible assumption | k_dflt decide) ?_; intro _ _ _ _ _ _ _ _ _ _
     refine z_global ‹_› ‹_› ‹_› ‹_› ?_
     refine b_cat ‹_› ‹_› ‹_› ‹_› ‹_› (TI.k (Kf.t_lawFar ‹_›).2) (by first | with_reducible assumption | k_dflt decide) ?_; intro _ _ _ _ _ _ _ _ _ _
     refine e_binN ‹_› ‹_› ‹_› (by tb_start) ?_
     refine d_mod (by decide) ?_
     refine kba_turn (value' := Expr.Name (Str.ofString "_") ⟨0, 0, 0, 0⟩) (by intro _; with_unfolding_all rfl) ?_
     refine k_item ‹_› ‹_› ‹_› ‹_› ‹_› (by first | with_reducible assumption | lia) ?_ (by with_unfolding_all rfl) (by intro _; with_unfolding_all rfl); intro _ _
     refine z_store ‹_› ‹_› ‹_› ‹_› ?_; intro _ _ _ _
     refine x_augS ?_ (by k_dflt (intros; rfl))
     refine z_local ‹_› ‹_› ‹_› (by tb_start) ?_
     refine d_str ?_
     refine b_gtext ‹_› ‹_› ?_; intro _ _
     refine PySem.wpAny_BinOp ?_
     refine PySem.wpAny_BinOp ?_
     refine d_str ?_
     refine e_built ‹_› ‹_› ‹_› (Kf.b_chr ‹_›) boot_chr (by decide) ?_ (by k_dflt exact rfl)
     refine z_local ‹_› ‹_› ‹_› (by tb_start) ?_
     refine d_chr (by first | with_reducible assumption | lia) ?_
     refine d_addSL lit39 (by first | with_reducible assumption | lia) ?_
     refine d_str ?_
     refine d_addSR lit39 (by first | with_reducible assumption | lia) ?_
     refine d_iaddS (by first | with_reducible assumption | lia) ?_
     refine b_setText ‹_› ‹_› ‹_› ?_; intro _ _ _ _ _ _ _
     refine x_if ?_
     refine t_cmpN ‹_› ‹_› ‹_› (by tb_start) ?_ (by with_unfolding_all rfl)
     refine n_gt ?_
     refine Exists.intro _ (And.intro rfl ?_)
     refine And.intro (fun _ => ?_) (fun _ => ?_)
     refine x_app ?_
     refine z_expr ‹_› ?_ (by k_dflt exact rfl)
     refine PyProof.Rows.MethodCall_ ?_ (by k_dflt exact rfl)
     refine b_faults ‹_› ‹_› ‹_› ‹_› ‹_› (by tb_start) ?_; intro _
     refine b_appR ‹_› ‹_› ?_
     refine PyProof.Rows.callWith_method1 ?_ (by k_dflt exact rfl) (by k_dflt exact rfl)
     refine z_args ?_ (by k_dflt exact rfl)
     refine PyProof.Rows.Tuple_ ?_
     refine z_args ?_ (by k_dflt exact rfl)
     refine d_num ?_
     refine z_args ?_ (by k_dflt exact rfl)
     refine z_local ‹_› ‹_› ‹_› (by tb_start) ?_
     refine z_args ?_ (by k_dflt exact rfl)
     refine PyProof.Rows.Tuple_ ?_
     refine z_args0 ?_
     refine b_tup ‹_› ‹_› ‹_› (aparts_nil) (by k_dflt exact Nat.le_of_ble_eq_true rfl) ?_; intro _ _ _ _ _ _ _ _ _
     refine z_args0 ?_
     refine b_tup ‹_› ‹_› ‹_› (aparts_cons Apart.int (aparts_cons Apart.int (aparts_cons ‹_› aparts_nil))) (by k_dflt exact Nat.le_of_ble_eq_true rfl) ?_; intro _ _ _ _ _ _ _ _ _
     refine z_args0 ?_
     refine call_app1 ?_
     refine b_pushR ‹_› ‹_› ‹_› ‹_› ‹_› ?_; intro _ _ _ _ _ _ _
     refine x_app ?_
     refine x_assign ?_ (by k_dflt exact rfl)
     refine d_num ?_
     refine z_store ‹_› ‹_› ‹_› ‹_› ?_; intro _ _ _ _
     refine x_app0 ?_
     refine z_expr ‹_› ?_ (by k_dflt exact rfl)
     refine PyProof.Rows.MethodCall_ ?_ (by k_dflt exact rfl)
     refine b_tokens ‹_› ‹_› ‹_› ‹_› ‹_› (by tb_start) ?_; intro _
     refine b_appT ‹_› ‹_› ?_
     refine PyProof.Rows.callWith_method1 ?_ (by k_dflt exact rfl) (by k_dflt exact rfl)
     refine z_args ?_ (by k_dflt exact rfl)
     refine PyProof.Rows.Tuple_ ?_
     refine z_args ?_ (by k_dflt exact rfl)
     refine z_global ‹_› ‹_› ‹_› ‹_› ?_
     refine z_args ?_ (by k_dflt exact rfl)
     refine z_local ‹_› ‹_› ‹_› (by tb_start) ?_
     refine z_args ?_ (by k_dflt exact rfl)
     refine z_local ‹_› ‹_› ‹_› (by tb_start) ?_
     refine z_args0 ?_
     refine b_tup ‹_› ‹_› ‹_› (aparts_cons Apart.int (aparts_cons Apart.int (aparts_cons Apart.int aparts_nil))) (by k_dflt exact Nat.le_of_ble_eq_true rfl) ?_; intro _ _ _ _ _ _ _ _ _
     refine z_args0 ?_
     refine call_app1 ?_
     refine b_pushT ‹_› ‹_› ‹_› ‹_› ‹_› ?_; intro _ _ _ _ _ _ _
     refine x_nil ?_
     refine z_end ‹_› ‹_› ?_
     rotate_left
     refine x_app0 ?_
     refine z_expr ‹_› ?_ (by k_dflt exact rfl)
     refine PyProof.Rows.MethodCall_ ?_ (by k_dflt exact rfl)
     refine b_tokens ‹_› ‹_› ‹_› ‹_› ‹_› (by tb_start) ?_; intro _
     refine b_appT ‹_› ‹_› ?_
     refine PyProof.Rows.callWith_method1 ?_ (by k_dflt exact rfl) (by k_dflt exact rfl)
     refine z_args ?_ (by k_dflt exact rfl)
     refine PyProof.Rows.Tuple_ ?_
     refine z_args ?_ (by k_dflt exact rfl)
     refine z_global ‹_› ‹_› ‹_› ‹_› ?_
     refine z_args ?_ (by k_dflt exact rfl)
     refine z_local ‹_› ‹_› ‹_› (by tb_start) ?_
     refine z_args ?_ (by k_dflt exact rfl)
     refine z_local ‹_› ‹_› ‹_› (by tb_start) ?_
     refine z_args0 ?_
     refine b_tup ‹_› ‹_› ‹_› (aparts_cons Apart.int (aparts_cons Apart.int (aparts_cons Apart.int aparts_nil))) (by k_dflt exact Nat.le_of_ble_eq_true rfl) ?_; intro _ _ _ _ _ _ _ _ _
     refine z_args0 ?_
     refine call_app1 ?_
     refine b_pushT ‹_› ‹_› ‹_› ‹_› ‹_› ?_; intro _ _ _ _ _ _ _
     refine x_nil ?_
     refine z_end ‹_› ‹_› ?_
     rotate_left
    · have hbig := of_decide_eq_true ‹decide (65535 < many.getD (u % 83) 0) = true›
      rw [if_pos hbig, if_pos hbig]
      exact ⟨rfl, by assumption, by lcg_sub⟩
    · have hbig := of_decide_eq_false ‹decide (65535 < many.getD (u % 83) 0) = false›
      rw [if_neg hbig, if_neg hbig, put_f]
      exact ⟨rfl, by assumption, by lcg_sub⟩
  · rw [show wM13 b k u = _ from if_neg (of_decide_eq_false f)]; exact pe14 H
theorem pe12 (H : PeH W A a b k u 95000 base g h c m news₀ news) : PcG W a (wM12 b k u) c g s news₀ (els (els (els rows9))) h tk := by
  obtain ⟨t₀, hm_sort⟩ := H.sort
  show wpAny _ _ (execs (_ :: _) _) _ _ _
  with_reducible refine x_ifEq0 H.S H.F k60_sort hm_sort (fun f => ?_) (fun f => ?_)
  · rw [show wM12 b k u = { b with text := b.text ++ ([64, 34] ++ stuffP u ++ [34, 34, 10, 34, 32]), toks := b.toks ++ [tokD 4 (strD (units (stuffP u) ++ [34, 10])) b.text.length] } by
      unfold wM12
      rw [if_pos (of_decide_eq_true f), put_f, List.append_assoc]; rfl]
    have S := H.S
    have KF := H.KF
    have F := H.F
    have N := H.N
    have B := H.B
    have K₀ := H.K
    have hm_w := H.w
    obtain ⟨t2, hm_v⟩ := H.v
    obtain ⟨t3, hm_at⟩ := H.at_
    obtain ⟨t4, hm_plain⟩ := H.plain
    obtain ⟨D, vs, kk, hm_stuff, hst, hDn, hvs⟩ := H.stuff
    have kl_w : Lc (dScope (defAt 60)) "w" := ⟨by kernel_rfl, by kernel_rfl⟩
    have kl_v : Lc (dScope (defAt 60)) "v" := ⟨by kernel_rfl, by kernel_rfl⟩
    have kl_at : Lc (dScope (defAt 60)) "at" := ⟨by kernel_rfl, by kernel_rfl⟩
    have kl_stuff : Lc (dScope (defAt 60)) "stuff" := ⟨by kernel_rfl, by kernel_rfl⟩
    have kl_plain : Lc (dScope (defAt 60)) "plain" := ⟨by kernel_rfl, by kernel_rfl⟩
    have kg_TK_TEXT : Gb (dScope (defAt 60)) "TK_TEXT" := ⟨by kernel_rfl, by kernel_rfl⟩
    obtain ⟨ti_TK_TEXT, gg_TK_TEXT⟩ := KF.i_TK_TEXT
    have kg_law_units : Gb (dScope (defAt 60)) "_law_units" := ⟨by kernel_rfl, by kernel_rfl⟩
    have kk_law_units := KF.d_lawUnits.keep
    have gg_law_units := KF.g_lawUnits
    have hk : ∀ k ∈ stuffP u, k < 1114112 := fun k hk => many_lt k (stuff_many hk)
    have hl := stuff_len u
    have y3 : (stuffP u).length ≤ 1000 := upto hl rfl
    have hul : (units (stuffP u)).length ≤ 8 := Nat.le_trans (units_len (stuffP u)) (Nat.mul_le_mul_left 2 hl)
    have x1 : ([64, 34] : Cs).length + (stuffP u).length ≤ 1000000 := ad (Nat.le_refl 2) hl rfl
    have x2 : ([64, 34] ++ stuffP u : Cs).length + ([34, 34, 10, 34, 32] : Cs).length ≤ 1000000 := ad (apl (Nat.le_refl 2) hl) (Nat.le_refl 5) rfl
    have x3 : b.text.length + ([64, 34] ++ stuffP u ++ [34, 34, 10, 34, 32] : Cs).length ≤ 1000000 := ad H.text (apl (apl (Nat.le_refl 2) hl) (Nat.le_refl 5)) rfl
    have x4 : (units (stuffP u)).length + ([34, 10] : Cs).length ≤ 1000000 := ad hul (Nat.le_refl 2) rfl
    have z4 : b.toks.length ≤ 100000 := upto H.toks rfl
    with_reducible
     refine x_augS ?_ (by k_dflt (intros; rfl))
     refine z_local ‹_› ‹_› ‹_› (by tb_start) ?_
     refine d_str ?_
     refine b_gtext ‹_› ‹_› ?_; intro _ _
     refine PySem.wpAny_BinOp ?_
     refine PySem.wpAny_BinOp ?_
     refine d_str ?_
     refine z_local ‹_› ‹_› ‹_› (by tb_start) ?_
     refine d_addSL lit64_34 (by first | with_reducible assumption | lia) ?_
     refine d_str ?_
     refine d_addSR lit_vend (by first | with_reducible assumption | lia) ?_
     refine d_iaddS (by first | with_reducible assumption | lia) ?_
     refine b_setText ‹_› ‹_› ‹_› ?_; intro _ _ _ _ _ _ _
     refine z_expr ‹_› ?_ (by k_dflt exact rfl)
     refine PyProof.Rows.MethodCall_ ?_ (by k_dflt exact rfl)
     refine b_tokens ‹_› ‹_› ‹_› ‹_› ‹_› (by tb_start) ?_; intro _
     refine b_appT ‹_› ‹_› ?_
     refine PyProof.Rows.callWith_method1 ?_ (by k_dflt exact rfl) (by k_dflt exact rfl)
     refine z_args ?_ (by k_dflt exact rfl)
     refine PyProof.Rows.Tuple_ ?_
     refine z_args ?_ (by k_dflt exact rfl)
     refine z_global ‹_› ‹_› ‹_› ‹_› ?_
     refine z_args ?_ (by k_dflt exact rfl)
     refine PySem.wpAny_BinOp ?_
     refine e_call1 ‹_› ‹_› ‹_› ‹_› ‹_› ‹_› (by tb_start) ?_
     refine u_lawUnits ‹_› ‹_› ‹_› ‹_› ‹_› ‹_› ‹_› ‹_› (by lcg_sub) ‹_› ‹_› (by k_dflt decide) ?_; intro _ _ _ _ _ _ _ _
     refine d_str ?_
     refine d_addSR lit34_10 (by first | with_reducible assumption | lia) ?_
     refine z_args ?_ (by k_dflt exact rfl)
     refine z_local ‹_› ‹_› ‹_› (by tb_start) ?_
     refine z_args0 ?_
     refine b_tup ‹_› ‹_› ‹_› (aparts_cons Apart.int (aparts_cons Apart.str (aparts_cons Apart.int aparts_nil))) (by k_dflt exact Nat.le_of_ble_eq_true rfl) ?_; intro _ _ _ _ _ _ _ _ _
     refine z_args0 ?_
     refine call_app1 ?_
     refine b_pushT ‹_› ‹_› ‹_› ‹_› ‹_› ?_; intro _ _ _ _ _ _ _
     refine x_nil ?_
     refine z_end ‹_› ‹_› ?_
    exact ⟨rfl, by assumption, by lcg_sub⟩
  · rw [show wM12 b k u = _ from if_neg (of_decide_eq_false f)]; exact pe13 H
theorem pe11 (H : PeH W A a b k u 95000 base g h c m news₀ news) : PcG W a (wM11 b k u) c g s news₀ (els (els rows9)) h tk := by
  obtain ⟨t₀, hm_sort⟩ := H.sort
  show wpAny _ _ (execs (_ :: _) _) _ _ _
  with_reducible refine x_ifEq0 H.S H.F k60_sort hm_sort (fun f => ?_) (fun f => ?_)
  · rw [show wM11 b k u = { b with text := b.text ++ ([34] ++ stuffP u ++ [34]), toks := b.toks ++ [tokD 4 (strD (units (stuffP u))) b.text.length] } by
      unfold wM11
      rw [if_pos (of_decide_eq_true f), put_f, List.append_assoc]; rfl]
    have S := H.S
    have KF := H.KF
    have F := H.F
    have N := H.N
    have B := H.B
    have K₀ := H.K
    have hm_w := H.w
    obtain ⟨t2, hm_v⟩ := H.v
    obtain ⟨t3, hm_at⟩ := H.at_
    obtain ⟨t4, hm_plain⟩ := H.plain
    obtain ⟨D, vs, kk, hm_stuff, hst, hDn, hvs⟩ := H.stuff
    have kl_w : Lc (dScope (defAt 60)) "w" := ⟨by kernel_rfl, by kernel_rfl⟩
    have kl_v : Lc (dScope (defAt 60)) "v" := ⟨by kernel_rfl, by kernel_rfl⟩
    have kl_at : Lc (dScope (defAt 60)) "at" := ⟨by kernel_rfl, by kernel_rfl⟩
    have kl_stuff : Lc (dScope (defAt 60)) "stuff" := ⟨by kernel_rfl, by kernel_rfl⟩
    have kl_plain : Lc (dScope (defAt 60)) "plain" := ⟨by kernel_rfl, by kernel_rfl⟩
    have kg_TK_TEXT : Gb (dScope (defAt 60)) "TK_TEXT" := ⟨by kernel_rfl, by kernel_rfl⟩
    obtain ⟨ti_TK_TEXT, gg_TK_TEXT⟩ := KF.i_TK_TEXT
    have kg_law_units : Gb (dScope (defAt 60)) "_law_units" := ⟨by kernel_rfl, by kernel_rfl⟩
    have kk_law_units := KF.d_lawUnits.keep
    have gg_law_units := KF.g_lawUnits
    have hk : ∀ k ∈ stuffP u, k < 1114112 := fun k hk => many_lt k (stuff_many hk)
    have hl := stuff_len u
    have y3 : (stuffP u).length ≤ 1000 := upto hl rfl
    have x1 : ([34] : Cs).length + (stuffP u).length ≤ 1000000 := ad (len1 34) hl rfl
    have x2 : ([34] ++ stuffP u : Cs).length + ([34] : Cs).length ≤ 1000000 := ad (apl (len1 34) hl) (len1 34) rfl
    have x3 : b.text.length + ([34] ++ stuffP u ++ [34] : Cs).length ≤ 1000000 := ad H.text (apl (apl (len1 34) hl) (len1 34)) rfl
    have z4 : b.toks.length ≤ 100000 := upto H.toks rfl
    with_reducible
     refine x_augS ?_ (by k_dflt (intros; rfl))
     refine z_local ‹_› ‹_› ‹_› (by tb_start) ?_
     refine d_str ?_
     refine b_gtext ‹_› ‹_› ?_; intro _ _
     refine PySem.wpAny_BinOp ?_
     refine PySem.wpAny_BinOp ?_
     refine d_str ?_
     refine z_local ‹_› ‹_› ‹_› (by tb_start) ?_
     refine d_addSL lit34 (by first | with_reducible assumption | lia) ?_
     refine d_str ?_
     refine d_addSR lit34 (by first | with_reducible assumption | lia) ?_
     refine d_iaddS (by first | with_reducible assumption | lia) ?_
     refine b_setText ‹_› ‹_› ‹_› ?_; intro _ _ _ _ _ _ _
     refine z_expr ‹_› ?_ (by k_dflt exact rfl)
     refine PyProof.Rows.MethodCall_ ?_ (by k_dflt exact rfl)
     refine b_tokens ‹_› ‹_› ‹_› ‹_› ‹_› (by tb_start) ?_; intro _
     refine b_appT ‹_› ‹_› ?_
     refine PyProof.Rows.callWith_method1 ?_ (by k_dflt exact rfl) (by k_dflt exact rfl)
     refine z_args ?_ (by k_dflt exact rfl)
     refine PyProof.Rows.Tuple_ ?_
     refine z_args ?_ (by k_dflt exact rfl)
     refine z_global ‹_› ‹_› ‹_› ‹_› ?_
     refine z_args ?_ (by k_dflt exact rfl)
     refine e_call1 ‹_› ‹_› ‹_› ‹_› ‹_› ‹_› (by tb_start) ?_
     refine u_lawUnits ‹_› ‹_› ‹_› ‹_› ‹_› ‹_› ‹_› ‹_› (by lcg_sub) ‹_› ‹_› (by k_dflt decide) ?_; intro _ _ _ _ _ _ _ _
     refine z_args ?_ (by k_dflt exact rfl)
     refine z_local ‹_› ‹_› ‹_› (by tb_start) ?_
     refine z_args0 ?_
     refine b_tup ‹_› ‹_› ‹_› (aparts_cons Apart.int (aparts_cons Apart.str (aparts_cons Apart.int aparts_nil))) (by k_dflt exact Nat.le_of_ble_eq_true rfl) ?_; intro _ _ _ _ _ _ _ _ _
     refine z_args0 ?_
     refine call_app1 ?_
     refine b_pushT ‹_› ‹_› ‹_› ‹_› ‹_› ?_; intro _ _ _ _ _ _ _
     refine x_nil ?_
     refine z_end ‹_› ‹_› ?_
    exact ⟨rfl, by assumption, by lcg_sub⟩
  · rw [show wM11 b k u = _ from if_neg (of_decide_eq_false f)]; exact pe12 H
theorem pe10 (H : PeH W A a b k u 95000 base g h c m news₀ news) : PcG W a (wM10 b k u) c g s news₀ (els rows9) h tk := by
  obtain ⟨t₀, hm_sort⟩ := H.sort
  show wpAny _ _ (execs (_ :: _) _) _ _ _
  with_reducible refine x_ifEq0 H.S H.F k60_sort hm_sort (fun f => ?_) (fun f => ?_)
  · rw [show wM10 b k u = { b with text := b.text ++ [blanksP.getD (u % 6) 0] } by
      unfold wM10
      rw [if_pos (of_decide_eq_true f), put_n]]
    have S := H.S
    have KF := H.KF
    have F := H.F
    have N := H.N
    have B := H.B
    have K₀ := H.K
    have hm_w := H.w
    obtain ⟨t2, hm_v⟩ := H.v
    have kl_w : Lc (dScope (defAt 60)) "w" := ⟨by kernel_rfl, by kernel_rfl⟩
    have kl_v : Lc (dScope (defAt 60)) "v" := ⟨by kernel_rfl, by kernel_rfl⟩
    have hi := blanks_at u
    have x1 : b.text.length + ([blanksP.getD (u % 6) 0] : Cs).length ≤ 1000000 := ad H.text (len1 _) rfl
    with_reducible
     refine x_augS ?_ (by k_dflt (intros; rfl))
     refine z_local ‹_› ‹_› ‹_› (by tb_start) ?_
     refine d_str ?_
     refine b_gtext ‹_› ‹_› ?_; intro _ _
     refine PyProof.Rows.Subscript_ ?_
     refine PyProof.Rows.Tuple_ ?_
     refine z_args ?_ (by k_dflt exact rfl)
     refine d_str ?_
     refine z_args ?_ (by k_dflt exact rfl)
     refine d_str ?_
     refine z_args ?_ (by k_dflt exact rfl)
     refine d_str ?_
     refine z_args ?_ (by k_dflt exact rfl)
     refine d_str ?_
     refine z_args ?_ (by k_dflt exact rfl)
     refine d_str ?_
     refine z_args ?_ (by k_dflt exact rfl)
     refine d_str ?_
     refine z_args0 ?_
     refine b_tupM ‹_› ‹_› ‹_› (by k_dflt exact Nat.le_of_ble_eq_true rfl) ?_; intro _ _ _ _ _ _ _ _ _ _
     refine e_binN ‹_› ‹_› ‹_› (by tb_start) ?_
     refine d_mod (by decide) ?_
     refine kba_turn (value' := Expr.Name (Str.ofString "_") ⟨0, 0, 0, 0⟩) (by intro _; with_unfolding_all rfl) ?_
     refine k_menuS (ws := blanksS) ‹_› ‹_› (by first | with_reducible assumption | k_dflt kernel_rfl) (by first | with_reducible assumption | k_dflt kernel_rfl) ‹_› (by lia) ?_ (by with_unfolding_all rfl) (by intro _; with_unfolding_all rfl); intro _ _
     refine d_iaddS (by first | with_reducible assumption | lia) ?_
     refine b_setText ‹_› ‹_› ‹_› ?_; intro _ _ _ _ _ _ _
     refine x_nil ?_
     refine z_end ‹_› ‹_› ?_
    exact ⟨rfl, by assumption, by lcg_sub⟩
  · rw [show wM10 b k u = _ from if_neg (of_decide_eq_false f)]; exact pe11 H
theorem pe9 (H : PeH W A a b k u 95000 base g h c m news₀ news) : PcG W a (wM9 b k u) c g s news₀ rows9 h tk := by
  obtain ⟨t₀, hm_sort⟩ := H.sort
  show wpAny _ _ (execs (_ :: _) _) _ _ _
  with_reducible refine x_ifEq0 H.S H.F k60_sort hm_sort (fun f => ?_) (fun f => ?_)
  · rw [show wM9 b k u = { b with text := b.text ++ [oneSigns.getD (u % 10) 0], toks := b.toks ++ [tokD 6 (strD [oneSigns.getD (u % 10) 0]) b.text.length] } by
      unfold wM9
      rw [if_pos (of_decide_eq_true f), put_f]]
    have S := H.S
    have KF := H.KF
    have F := H.F
    have N := H.N
    have B := H.B
    have K₀ := H.K
    have hm_w := H.w
    obtain ⟨t2, hm_v⟩ := H.v
    obtain ⟨t3, hm_at⟩ := H.at_
    have kl_w : Lc (dScope (defAt 60)) "w" := ⟨by kernel_rfl, by kernel_rfl⟩
    have kl_v : Lc (dScope (defAt 60)) "v" := ⟨by kernel_rfl, by kernel_rfl⟩
    have kl_at : Lc (dScope (defAt 60)) "at" := ⟨by kernel_rfl, by kernel_rfl⟩
    have kg_TK_SIGN : Gb (dScope (defAt 60)) "TK_SIGN" := ⟨by kernel_rfl, by kernel_rfl⟩
    obtain ⟨ti_TK_SIGN, gg_TK_SIGN⟩ := KF.i_TK_SIGN
    have hi := ones_at u
    have x1 : b.text.length + ([oneSigns.getD (u % 10) 0] : Cs).length ≤ 1000000 := ad H.text (len1 _) rfl
    have x2 : b.text.length ≤ (b.text ++ [oneSigns.getD (u % 10) 0]).length := apr _ _
    have x3 : (b.text ++ [oneSigns.getD (u % 10) 0]).length ≤ 100000 := upto (apl H.text (len1 _)) rfl
    have z4 : b.toks.length ≤ 100000 := upto H.toks rfl
    with_reducible
     refine x_augS ?_ (by k_dflt (intros; rfl))
     refine z_local ‹_› ‹_› ‹_› (by tb_start) ?_
     refine d_str ?_
     refine b_gtext ‹_› ‹_› ?_; intro _ _
     refine PyProof.Rows.Subscript_ ?_
     refine d_str ?_
     refine e_binN ‹_› ‹_› ‹_› (by tb_start) ?_
     refine d_mod (by decide) ?_
     refine d_itemL lit_signs ‹_› (by k_dflt decide) ?_ (by with_unfolding_all rfl)
     refine d_iaddS (by first | with_reducible assumption | lia) ?_
     refine b_setText ‹_› ‹_› ‹_› ?_; intro _ _ _ _ _ _ _
     refine z_expr ‹_› ?_ (by k_dflt exact rfl)
     refine PyProof.Rows.MethodCall_ ?_ (by k_dflt exact rfl)
     refine b_tokens ‹_› ‹_› ‹_› ‹_› ‹_› (by tb_start) ?_; intro _
     refine b_appT ‹_› ‹_› ?_
     refine PyProof.Rows.callWith_method1 ?_ (by k_dflt exact rfl) (by k_dflt exact rfl)
     refine z_args ?_ (by k_dflt exact rfl)
     refine PyProof.Rows.Tuple_ ?_
     refine z_args ?_ (by k_dflt exact rfl)
     refine z_global ‹_› ‹_› ‹_› ‹_› ?_
     refine z_args ?_ (by k_dflt exact rfl)
     refine PyProof.Rows.Subscript_ ?_
     refine b_text ‹_› ‹_› ‹_› ‹_› ‹_› (by tb_start) ?_; intro _ _
     refine z_slice ?_
     refine evalPart_some_step ?_
     refine z_local ‹_› ‹_› ‹_› (by tb_start) ?_
     refine evalPart_none_step ?_
     refine Exists.intro _ (Exists.intro _ (And.intro rfl ?_))
     refine z_tail_drop ‹_› ‹_› (by with_reducible exact List.drop_left) ‹_› ‹_› (by with_unfolding_all rfl) (by intro _; with_unfolding_all rfl) ?_; intro _ _ _ _ _
     refine z_args ?_ (by k_dflt exact rfl)
     refine z_local ‹_› ‹_› ‹_› (by tb_start) ?_
     refine z_args0 ?_
     refine b_tup ‹_› ‹_› ‹_› (aparts_cons Apart.int (aparts_cons Apart.str (aparts_cons Apart.int aparts_nil))) (by k_dflt exact Nat.le_of_ble_eq_true rfl) ?_; intro _ _ _ _ _ _ _ _ _
     refine z_args0 ?_
     refine call_app1 ?_
     refine b_pushT ‹_› ‹_› ‹_› ‹_› ‹_› ?_; intro _ _ _ _ _ _ _
     refine x_nil ?_
     refine z_end ‹_› ‹_› ?_
    exact ⟨rfl, by assumption, by lcg_sub⟩
  · rw [show wM9 b k u = _ from if_neg (of_decide_eq_false f)]; exact pe10 H
theorem pc9 (H : PcH W A a b k u 90000 base g h c m news₀ news) : PcG W a (wM9 (shut b) k u) c g s news₀ ((dBody (defAt 60)).drop 9) h tk := by
  have S := H.S
  have KF := H.KF
  have F := H.F
  have N := H.N
  have B := H.B
  have K₀ := H.K
  have hm_w := H.w
  obtain ⟨t2, hm_v⟩ := H.v
  obtain ⟨t₁, hm_sort⟩ := H.sort
  obtain ⟨q, vs, hm_words, hq, hqn, hw1, hw2⟩ := H.words
  have kl_w : Lc (dScope (defAt 60)) "w" := ⟨by kernel_rfl, by kernel_rfl⟩
  have kl_v : Lc (dScope (defAt 60)) "v" := ⟨by kernel_rfl, by kernel_rfl⟩
  have kl_at : Lc (dScope (defAt 60)) "at" := ⟨by kernel_rfl, by kernel_rfl⟩
  have kl_stuff : Lc (dScope (defAt 60)) "stuff" := ⟨by kernel_rfl, by kernel_rfl⟩
  have kl_plain : Lc (dScope (defAt 60)) "plain" := ⟨by kernel_rfl, by kernel_rfl⟩
  have kg_law_end : Gb (dScope (defAt 60)) "_law_end" := ⟨by kernel_rfl, by kernel_rfl⟩
  have kk_law_end := KF.d_lawEnd.keep
  have gg_law_end := KF.g_lawEnd
  have kg_len : Gb (dScope (defAt 60)) "len" := ⟨by kernel_rfl, by kernel_rfl⟩
  have kg_law_stuff : Gb (dScope (defAt 60)) "_law_stuff" := ⟨by kernel_rfl, by kernel_rfl⟩
  have kk_law_stuff := KF.d_lawStuff.keep
  have gg_law_stuff := KF.g_lawStuff
  have kg_chr : Gb (dScope (defAt 60)) "chr" := ⟨by kernel_rfl, by kernel_rfl⟩
  obtain ⟨q1, q2, q3, q4⟩ := wEnd_len b
  have hu := H.hu
  have z1 : b.toks.length ≤ 100000 := upto H.toks rfl
  have z2 : b.name.length ≤ 900000 := upto H.name rfl
  have z3 : (wEnd b).text.length ≤ 100000 := by rw [q1]; exact upto H.text rfl
  have hk : ∀ k ∈ stuffP u, k < 1114112 := fun k hk => many_lt k (stuff_many hk)
  have hl := stuff_len u
  have y1 : (stuffP u).length ≤ 100000 := upto hl rfl
  have y2 : (stuffP u).length ≤ 1000000 := upto hl rfl
  show wpAny _ _ (execs (_ :: _ :: _ :: _ :: _ :: rows9) _) _ _ _
  with_reducible
   refine z_expr ‹_› ?_ (by k_dflt exact rfl)
   refine e_call1 ‹_› ‹_› ‹_› ‹_› ‹_› ‹_› (by tb_start) ?_
   refine u_lawEnd ‹_› ‹_› ‹_› ‹_› ‹_› ‹_› ‹_› (by k_dflt decide) ?_; intro _ _ _ _ _ _ _
   refine x_assignS ?_ (by k_dflt exact rfl)
   refine z_bool ?_
   refine z_local ‹_› ‹_› ‹_› (by tb_start) ?_
   refine d_str ?_
   refine b_setNumber ‹_› ‹_› ‹_› ?_; intro _ _ _ _ _ _ _
   refine x_assign ?_ (by k_dflt exact rfl)
   refine e_built ‹_› ‹_› ‹_› (Kf.b_len ‹_›) boot_len (by decide) ?_ (by k_dflt exact rfl)
   refine b_text ‹_› ‹_› ‹_› ‹_› ‹_› (by tb_start) ?_; intro _ _
   refine d_len ‹_› ?_
   refine z_store ‹_› ‹_› ‹_› ‹_› ?_; intro _ _ _ _
   refine x_assign ?_ (by k_dflt exact rfl)
   refine e_call1 ‹_› ‹_› ‹_› ‹_› ‹_› ‹_› (by tb_start) ?_
   refine u_lawStuff ‹_› ‹_› ‹_› ‹_› ‹_› ‹_› (by k_dflt decide) ?_; intro _ _ _ _ _ _ _ _ _ _ _ _ _
   refine z_store ‹_› ‹_› ‹_› ‹_› ?_; intro _ _ _ _
   refine x_assign ?_ (by k_dflt exact rfl)
   refine PyProof.Rows.MethodCall_ ?_ (by k_dflt exact rfl)
   refine d_str ?_
   refine GM.join ?_
   refine PyProof.Rows.callWith_method1 ?_ (by k_dflt exact rfl) (by k_dflt exact rfl)
   refine z_args ?_ (by k_dflt exact rfl)
   refine b_comp ‹_› ‹_› ‹_› ‹_› ‹_› ‹_› (by tb_start) ‹_› ‹_› ‹_› ‹_› (by k_dflt exact rfl) (by k_dflt exact of_decide_eq_true (by kernel_rfl)) (by k_dflt exact rfl) (by k_dflt exact of_decide_eq_true (by kernel_rfl)) (by k_dflt exact rfl) (by k_dflt exact rfl) (by k_dflt exact rfl) (by k_dflt exact rfl) ?_; intro _ _ _ _ _ _ _ _ _
   refine z_args0 ?_
   refine call_app1 ?_
   refine z_join ‹_› ‹_› (by first | with_reducible assumption | lia) ?_; intro _ _
   refine z_store ‹_› ‹_› ‹_› ‹_› ?_; intro _ _ _ _
  rename_i h₁ tk₁ l₁ F₁ N₁ B₁ K₁ h₂ tk₂ l₂ F₂ N₂ B₂ K₂ ta tb h₃ tk₃ F₃ N₃ D vs' kk h₄ tk₄ l₄ F₄ N₄ hvs hD B₄ hDn K₄ h₅ tk₅ F₅ N₅ U h₆ tk₆ l₆ F₆ N₆ G₆ B₆ K₆ tc td h₇ tk₇ F₇ N₇
  have KK : Kp a.S news l₆ := K₁.trans (K₂.trans (K₄.trans K₆))
  exact pe9 { S := S, KF := KF, F := F₇, N := N₇, B := B₆, K := K₀.trans KK, text := (by show (wEnd b).text.length ≤ _; rw [q1]; exact upto H.text rfl), name := (by show (wEnd b).name.length ≤ _; rw [q4]; exact Nat.zero_le _), toks := Nat.le_trans q3 (ad H.toks (Nat.le_refl 1) rfl), flts := (by show (wEnd b).flts.length ≤ _; rw [q2]; exact upto H.flts rfl), hu := hu, w := by tb_start, sort := ⟨t₁, by tb_start⟩, v := ⟨t2, by tb_start⟩, words := ⟨q, vs, by tb_start, KK _ hq hqn, hqn, hw1, hw2⟩, at_ := ⟨_, by tb_start⟩, stuff := ⟨D, vs', kk, by tb_start, K₆ _ hD hDn, hDn, hvs⟩, plain := ⟨_, by tb_start⟩ }
theorem pc8 (H : PcH W A a b k u 90000 base g h c m news₀ news) : PcG W a (wS8 b k u) c g s news₀ ((dBody (defAt 60)).drop 8) h tk := by
  obtain ⟨t₀, hm_sort⟩ := H.sort
  show wpAny _ _ (execs (_ :: _) _) _ _ _
  with_reducible refine x_ifEq H.S H.F k60_sort hm_sort (fun f => ?_) (fun f => ?_)
  · rw [show wS8 b k u = wStrange b [far.getD (u % 10) 0, far.getD (u / 10 % 10) 0] from if_pos (of_decide_eq_true f)]
    have S := H.S
    have KF := H.KF
    have F := H.F
    have N := H.N
    have B := H.B
    have K₀ := H.K
    have hm_w := H.w
    obtain ⟨t2, hm_v⟩ := H.v
    have kl_w : Lc (dScope (defAt 60)) "w" := ⟨by kernel_rfl, by kernel_rfl⟩
    have kl_v : Lc (dScope (defAt 60)) "v" := ⟨by kernel_rfl, by kernel_rfl⟩
    have kg_law_strange : Gb (dScope (defAt 60)) "_law_strange" := ⟨by kernel_rfl, by kernel_rfl⟩
    have kk_law_strange := KF.d_lawStrange.keep
    have gg_law_strange := KF.g_lawStrange
    have kg_law_FAR : Gb (dScope (defAt 60)) "_law_FAR" := ⟨by kernel_rfl, by kernel_rfl⟩
    have gg_law_FAR := KF.t_lawFar.1
    have hi := far_at u
    have hi' := far_at (u / 10)
    have hc : ∀ k ∈ ([far.getD (u % 10) 0, far.getD (u / 10 % 10) 0] : Cs), k < 1114112 := fun k hk => by
      rcases List.mem_cons.mp hk with rfl | hk
      · exact far_lt _
      · rw [List.mem_singleton.mp hk]; exact far_lt _
    have y2 : b.text.length + ([far.getD (u % 10) 0, far.getD (u / 10 % 10) 0] : Cs).length ≤ 100000 := ad H.text (Nat.le_refl 2) rfl
    have y5 : b.flts.length + ([far.getD (u % 10) 0, far.getD (u / 10 % 10) 0] : Cs).length ≤ 100000 := ad H.flts (Nat.le_refl 2) rfl
    have y3 : b.name.length ≤ 900000 := upto H.name rfl
    have y4 : b.toks.length ≤ 100000 := upto H.toks rfl
    with_reducible
     refine x_app ?_
     refine z_expr ‹_› ?_ (by k_dflt exact rfl)
     refine e_callNE ‹_› ‹_› ‹_› ‹_› ‹_› ‹_› (by tb_start) ?_ (by k_dflt exact rfl)
     refine PyProof.Rows.List_ ?_
     refine z_args ?_ (by k_dflt exact rfl)
     refine PyProof.Rows.Subscript_ ?_
     refine z_global ‹_› ‹_› ‹_› ‹_› ?_
     refine e_binN ‹_› ‹_› ‹_› (by tb_start) ?_
     refine d_mod (by decide) ?_
     refine k_item ‹_› ‹_› ‹_› (TI.k (Kf.t_lawFar ‹_›).2) ‹_› (by first | with_reducible assumption | lia) ?_ (by with_unfolding_all rfl) (by intro _; with_unfolding_all rfl); intro _ _
     refine z_args ?_ (by k_dflt exact rfl)
     refine PyProof.Rows.Subscript_ ?_
     refine z_global ‹_› ‹_› ‹_› ‹_› ?_
     refine PySem.wpAny_BinOp ?_
     refine e_binN ‹_› ‹_› ‹_› (by tb_start) ?_
     refine d_div (by decide) (by decide) ?_
     refine d_num ?_
     refine d_mod (by decide) ?_
     refine k_item ‹_› ‹_› ‹_› (TI.k (Kf.t_lawFar ‹_›).2) ‹_› (by first | with_reducible assumption | lia) ?_ (by with_unfolding_all rfl) (by intro _; with_unfolding_all rfl); intro _ _
     refine z_args0 ?_
     refine b_list2 ‹_› ‹_› ‹_› ?_; intro _ _ _ _ _ _ _ _ _ _
     refine And.intro (Exists.intro _ ‹_›) ?_
     refine u_lawStrange ‹_› ‹_› ‹_› ‹_› ‹_› ‹_› ‹_› ‹_› ‹_› ‹_› ‹_› ‹_› (by k_dflt decide) ?_; intro _ _ _ _ _ _ _
     refine x_app ?_
     refine x_ret0 ?_
     refine z_done ‹_› ‹_› ?_
    exact ⟨rfl, by assumption, by lcg_sub⟩
  · with_reducible refine x_app0 ?_
    rw [show wS8 b k u = _ from if_neg (of_decide_eq_false f)]; exact pc9 H
theorem pc7 (H : PcH W A a b k u 90000 base g h c m news₀ news) : PcG W a (wS7 b k u) c g s news₀ ((dBody (defAt 60)).drop 7) h tk := by
  obtain ⟨t₀, hm_sort⟩ := H.sort
  show wpAny _ _ (execs (_ :: _) _) _ _ _
  with_reducible refine x_ifEq H.S H.F k60_sort hm_sort (fun f => ?_) (fun f => ?_)
  · rw [show wS7 b k u = wStrange b [signs.getD (u % 27) 0] from if_pos (of_decide_eq_true f)]
    have S := H.S
    have KF := H.KF
    have F := H.F
    have N := H.N
    have B := H.B
    have K₀ := H.K
    have hm_w := H.w
    obtain ⟨t2, hm_v⟩ := H.v
    have kl_w : Lc (dScope (defAt 60)) "w" := ⟨by kernel_rfl, by kernel_rfl⟩
    have kl_v : Lc (dScope (defAt 60)) "v" := ⟨by kernel_rfl, by kernel_rfl⟩
    have kg_law_strange : Gb (dScope (defAt 60)) "_law_strange" := ⟨by kernel_rfl, by kernel_rfl⟩
    have kk_law_strange := KF.d_lawStrange.keep
    have gg_law_strange := KF.g_lawStrange
    have kg_law_SIGNS : Gb (dScope (defAt 60)) "_law_SIGNS" := ⟨by kernel_rfl, by kernel_rfl⟩
    have gg_law_SIGNS := KF.t_lawSigns.1
    have hi := signs_at u
    have hc : ∀ k ∈ ([signs.getD (u % 27) 0] : Cs), k < 1114112 := fun k hk => by rw [List.mem_singleton.mp hk]; exact signs_lt _
    have y2 : b.text.length + ([signs.getD (u % 27) 0] : Cs).length ≤ 100000 := ad H.text (len1 _) rfl
    have y5 : b.flts.length + ([signs.getD (u % 27) 0] : Cs).length ≤ 100000 := ad H.flts (len1 _) rfl
    have y3 : b.name.length ≤ 900000 := upto H.name rfl
    have y4 : b.toks.length ≤ 100000 := upto H.toks rfl
    with_reducible
     refine x_app ?_
     refine z_expr ‹_› ?_ (by k_dflt exact rfl)
     refine e_callNE ‹_› ‹_› ‹_› ‹_› ‹_› ‹_› (by tb_start) ?_ (by k_dflt exact rfl)
     refine PyProof.Rows.List_ ?_
     refine z_args ?_ (by k_dflt exact rfl)
     refine PyProof.Rows.Subscript_ ?_
     refine z_global ‹_› ‹_› ‹_› ‹_› ?_
     refine e_binN ‹_› ‹_› ‹_› (by tb_start) ?_
     refine d_mod (by decide) ?_
     refine k_item ‹_› ‹_› ‹_› (TI.k (Kf.t_lawSigns ‹_›).2) ‹_› (by first | with_reducible assumption | lia) ?_ (by with_unfolding_all rfl) (by intro _; with_unfolding_all rfl); intro _ _
     refine z_args0 ?_
     refine b_list1 ‹_› ‹_› ‹_› ?_; intro _ _ _ _ _ _ _ _ _ _
     refine And.intro (Exists.intro _ ‹_›) ?_
     refine u_lawStrange ‹_› ‹_› ‹_› ‹_› ‹_› ‹_› ‹_› ‹_› ‹_› ‹_› ‹_› ‹_› (by k_dflt decide) ?_; intro _ _ _ _ _ _ _
     refine x_app ?_
     refine x_ret0 ?_
     refine z_done ‹_› ‹_› ?_
    exact ⟨rfl, by assumption, by lcg_sub⟩
  · with_reducible refine x_app0 ?_
    rw [show wS7 b k u = _ from if_neg (of_decide_eq_false f)]; exact pc8 H
theorem pc6 (H : PcH W A a b k u 90000 base g h c m news₀ news) : PcG W a (wS6 b k u) c g s news₀ ((dBody (defAt 60)).drop 6) h tk := by
  obtain ⟨t₀, hm_sort⟩ := H.sort
  show wpAny _ _ (execs (_ :: _) _) _ _ _
  with_reducible refine x_ifEq H.S H.F k60_sort hm_sort (fun f => ?_) (fun f => ?_)
  · rw [show wS6 b k u = wNumber b (nums3.getD (u % 3) ([], 0)).1 (nums3.getD (u % 3) ([], 0)).2 from if_pos (of_decide_eq_true f)]
    have S := H.S
    have KF := H.KF
    have F := H.F
    have N := H.N
    have B := H.B
    have K₀ := H.K
    have hm_w := H.w
    obtain ⟨t2, hm_v⟩ := H.v
    have kl_w : Lc (dScope (defAt 60)) "w" := ⟨by kernel_rfl, by kernel_rfl⟩
    have kl_v : Lc (dScope (defAt 60)) "v" := ⟨by kernel_rfl, by kernel_rfl⟩
    have kg_law_number : Gb (dScope (defAt 60)) "_law_number" := ⟨by kernel_rfl, by kernel_rfl⟩
    have kk_law_number := KF.d_lawNumber.keep
    have gg_law_number := KF.g_lawNumber
    obtain ⟨hi, hi', hl, e, he⟩ := nums_at u
    have y1 : (nums3.getD (u % 3) ([], 0)).1.length ≤ 100000 := upto hl rfl
    have y2 : b.text.length + (nums3.getD (u % 3) ([], 0)).1.length + 1 ≤ 100000 := ad (Nat.add_le_add H.text hl) (Nat.le_refl 1) rfl
    have y3 : b.name.length + (nums3.getD (u % 3) ([], 0)).1.length ≤ 1000000 := ad H.name hl rfl
    have y4 : b.toks.length ≤ 100000 := upto H.toks rfl
    with_reducible
     refine x_app ?_
     refine z_expr ‹_› ?_ (by k_dflt exact rfl)
     refine v_call ?_
     refine z_global ‹_› ‹_› ‹_› ‹_› ?_
     refine z_call ‹_› ‹_› ?_ (by k_dflt exact rfl) (by k_dflt exact rfl)
     refine z_args ?_ (by k_dflt exact rfl)
     refine z_local ‹_› ‹_› ‹_› (by tb_start) ?_
     refine z_args ?_ (by k_dflt exact rfl)
     refine PyProof.Rows.Subscript_ ?_
     refine PyProof.Rows.Tuple_ ?_
     refine z_args ?_ (by k_dflt exact rfl)
     refine d_str ?_
     refine z_args ?_ (by k_dflt exact rfl)
     refine d_str ?_
     refine z_args ?_ (by k_dflt exact rfl)
     refine d_str ?_
     refine z_args0 ?_
     refine b_tupM ‹_› ‹_› ‹_› (by k_dflt exact Nat.le_of_ble_eq_true rfl) ?_; intro _ _ _ _ _ _ _ _ _ _
     refine e_binN ‹_› ‹_› ‹_› (by tb_start) ?_
     refine d_mod (by decide) ?_
     refine kba_turn (value' := Expr.Name (Str.ofString "_") ⟨0, 0, 0, 0⟩) (by intro _; with_unfolding_all rfl) ?_
     refine k_menuS (ws := numsS) ‹_› ‹_› (by first | with_reducible assumption | k_dflt kernel_rfl) (by k_dflt exact rfl) ‹_› (by lia) ?_ (by with_unfolding_all rfl) (by intro _; with_unfolding_all rfl); intro _ _
     refine z_args ?_ (by k_dflt exact rfl)
     refine PyProof.Rows.Subscript_ ?_
     refine PyProof.Rows.Tuple_ ?_
     refine z_args ?_ (by k_dflt exact rfl)
     refine d_num ?_
     refine z_args ?_ (by k_dflt exact rfl)
     refine d_num ?_
     refine z_args ?_ (by k_dflt exact rfl)
     refine d_num ?_
     refine z_args0 ?_
     refine b_tupM ‹_› ‹_› ‹_› (by k_dflt exact Nat.le_of_ble_eq_true rfl) ?_; intro _ _ _ _ _ _ _ _ _ _
     refine e_binN ‹_› ‹_› ‹_› (by tb_start) ?_
     refine d_mod (by decide) ?_
     refine kba_turn (value' := Expr.Name (Str.ofString "_") ⟨0, 0, 0, 0⟩) (by intro _; with_unfolding_all rfl) ?_
     refine k_menuI (ns := numsI) ‹_› ‹_› (by first | with_reducible assumption | k_dflt kernel_rfl) ‹_› (by lia) ?_ (by with_unfolding_all rfl) (by intro _; with_unfolding_all rfl); intro _ _
     refine z_args0 ?_
     refine And.intro (Exists.intro _ ‹_›) ?_
     refine u_lawNumber ‹_› ‹_› ‹_› ‹_› ‹_› ‹_› ‹_› ‹_› ‹_› ‹_› (by k_dflt decide) ?_; intro _ _ _ _ _ _ _
     refine x_app ?_
     refine x_ret0 ?_
     refine z_done ‹_› ‹_› ?_
    exact ⟨rfl, by assumption, by lcg_sub⟩
  · with_reducible refine x_app0 ?_
    rw [show wS6 b k u = _ from if_neg (of_decide_eq_false f)]; exact pc7 H
theorem pc5 (H : PcH W A a b k u 90000 base g h c m news₀ news) : PcG W a (wS5 b k u) c g s news₀ ((dBody (defAt 60)).drop 5) h tk := by
  obtain ⟨t₀, hm_sort⟩ := H.sort
  show wpAny _ _ (execs (_ :: _) _) _ _ _
  with_reducible refine x_ifEq H.S H.F k60_sort hm_sort (fun f => ?_) (fun f => ?_)
  · rw [show wS5 b k u = wName b (mixedP.getD (u % 5) []) from if_pos (of_decide_eq_true f)]
    have S := H.S
    have KF := H.KF
    have F := H.F
    have N := H.N
    have B := H.B
    have K₀ := H.K
    have hm_w := H.w
    obtain ⟨t2, hm_v⟩ := H.v
    have kl_w : Lc (dScope (defAt 60)) "w" := ⟨by kernel_rfl, by kernel_rfl⟩
    have kl_v : Lc (dScope (defAt 60)) "v" := ⟨by kernel_rfl, by kernel_rfl⟩
    have kg_law_name : Gb (dScope (defAt 60)) "_law_name" := ⟨by kernel_rfl, by kernel_rfl⟩
    have kk_law_name := KF.d_lawName.keep
    have gg_law_name := KF.g_lawName
    have hi := mixed_at u
    obtain ⟨e, he⟩ := name_fact (mixed_isName u)
    have hl := mixed_len u
    have y1 : (mixedP.getD (u % 5) []).length ≤ 100000 := upto hl rfl
    have y2 : b.text.length + (mixedP.getD (u % 5) []).length + 1 ≤ 100000 := ad (Nat.add_le_add H.text hl) (Nat.le_refl 1) rfl
    have y3 : b.name.length + (mixedP.getD (u % 5) []).length ≤ 1000000 := ad H.name hl rfl
    with_reducible
     refine x_app ?_
     refine z_expr ‹_› ?_ (by k_dflt exact rfl)
     refine e_callNE ‹_› ‹_› ‹_› ‹_› ‹_› ‹_› (by tb_start) ?_ (by k_dflt exact rfl)
     refine PyProof.Rows.Subscript_ ?_
     refine PyProof.Rows.Tuple_ ?_
     refine z_args ?_ (by k_dflt exact rfl)
     refine d_str ?_
     refine z_args ?_ (by k_dflt exact rfl)
     refine d_str ?_
     refine z_args ?_ (by k_dflt exact rfl)
     refine d_str ?_
     refine z_args ?_ (by k_dflt exact rfl)
     refine d_str ?_
     refine z_args ?_ (by k_dflt exact rfl)
     refine d_str ?_
     refine z_args0 ?_
     refine b_tupM ‹_› ‹_› ‹_› (by k_dflt exact Nat.le_of_ble_eq_true rfl) ?_; intro _ _ _ _ _ _ _ _ _ _
     refine e_binN ‹_› ‹_› ‹_› (by tb_start) ?_
     refine d_mod (by decide) ?_
     refine kba_turn (value' := Expr.Name (Str.ofString "_") ⟨0, 0, 0, 0⟩) (by intro _; with_unfolding_all rfl) ?_
     refine k_menuS (ws := mixedP) ‹_› ‹_› (by first | with_reducible assumption | k_dflt kernel_rfl) (by first | with_reducible assumption | k_dflt kernel_rfl) ‹_› (by lia) ?_ (by with_unfolding_all rfl) (by intro _; with_unfolding_all rfl); intro _ _
     refine And.intro (Exists.intro _ ‹_›) ?_
     refine u_lawName ‹_› ‹_› ‹_› ‹_› ‹_› ‹_› ‹_› ‹_› ‹_› (by k_dflt decide) ?_; intro _ _ _ _ _ _ _
     refine x_app ?_
     refine x_ret0 ?_
     refine z_done ‹_› ‹_› ?_
    exact ⟨rfl, by assumption, by lcg_sub⟩
  · with_reducible refine x_app0 ?_
    rw [show wS5 b k u = _ from if_neg (of_decide_eq_false f)]; exact pc6 H
theorem pc4 (H : PcH W A a b k u 90000 base g h c m news₀ news) : PcG W a (wS4 b k u) c g s news₀ ((dBody (defAt 60)).drop 4) h tk := by
  obtain ⟨t₀, hm_sort⟩ := H.sort
  show wpAny _ _ (execs (_ :: _) _) _ _ _
  with_reducible refine x_ifEq H.S H.F k60_sort hm_sort (fun f => ?_) (fun f => ?_)
  · rw [show wS4 b k u = wName b (wordsP.getD (u % 12) []) from if_pos (of_decide_eq_true f)]
    have S := H.S
    have KF := H.KF
    have F := H.F
    have N := H.N
    have B := H.B
    have K₀ := H.K
    have hm_w := H.w
    obtain ⟨t2, hm_v⟩ := H.v
    obtain ⟨q, vs, hm_words, hq, hqn, hw1, hw2⟩ := H.words
    have kl_w : Lc (dScope (defAt 60)) "w" := ⟨by kernel_rfl, by kernel_rfl⟩
    have kl_v : Lc (dScope (defAt 60)) "v" := ⟨by kernel_rfl, by kernel_rfl⟩
    have kl_words : Lc (dScope (defAt 60)) "words" := ⟨by kernel_rfl, by kernel_rfl⟩
    have kg_law_name : Gb (dScope (defAt 60)) "_law_name" := ⟨by kernel_rfl, by kernel_rfl⟩
    have kk_law_name := KF.d_lawName.keep
    have gg_law_name := KF.g_lawName
    have hi := words_at u
    obtain ⟨e, he⟩ := name_fact (word_isName u)
    have hl := words_len u
    have y1 : (wordsP.getD (u % 12) []).length ≤ 100000 := upto hl rfl
    have y2 : b.text.length + (wordsP.getD (u % 12) []).length + 1 ≤ 100000 := ad (Nat.add_le_add H.text hl) (Nat.le_refl 1) rfl
    have y3 : b.name.length + (wordsP.getD (u % 12) []).length ≤ 1000000 := ad H.name hl rfl
    with_reducible
     refine x_app ?_
     refine z_expr ‹_› ?_ (by k_dflt exact rfl)
     refine e_callNE ‹_› ‹_› ‹_› ‹_› ‹_› ‹_› (by tb_start) ?_ (by k_dflt exact rfl)
     refine PyProof.Rows.Subscript_ ?_
     refine z_local ‹_› ‹_› ‹_› (by tb_start) ?_
     refine e_binN ‹_› ‹_› ‹_› (by tb_start) ?_
     refine d_mod (by decide) ?_
     refine k_menuK (ws := wordsP) ‹_› ‹_› ‹_› (by lcg_sub) (by first | with_reducible assumption | k_dflt kernel_rfl) (by first | with_reducible assumption | k_dflt kernel_rfl) ‹_› (by lia) ?_ (by with_unfolding_all rfl) (by intro _; with_unfolding_all rfl); intro _ _
     refine And.intro (Exists.intro _ ‹_›) ?_
     refine u_lawName ‹_› ‹_› ‹_› ‹_› ‹_› ‹_› ‹_› ‹_› ‹_› (by k_dflt decide) ?_; intro _ _ _ _ _ _ _
     refine x_app ?_
     refine x_ret0 ?_
     refine z_done ‹_› ‹_› ?_
    exact ⟨rfl, by assumption, by lcg_sub⟩
  · with_reducible refine x_app0 ?_
    rw [show wS4 b k u = _ from if_neg (of_decide_eq_false f)]; exact pc5 H
theorem pc3 (H : PcH W A a b k u 90000 base g h c m news₀ news) : PcG W a (wS3 b k u) c g s news₀ ((dBody (defAt 60)).drop 3) h tk := by
  obtain ⟨t₀, hm_sort⟩ := H.sort
  have S := H.S
  have KF := H.KF
  have F := H.F
  have N := H.N
  have B := H.B
  have K₀ := H.K
  have hm_w := H.w
  obtain ⟨t2, hm_v⟩ := H.v
  have kl_sort := k60_sort
  show wpAny _ _ (execs (_ :: _) _) _ _ _
  with_reducible
   refine x_if ?_
   refine t_cmpN ‹_› ‹_› ‹_› (by tb_start) ?_ (by with_unfolding_all rfl)
   refine n_lt ?_
   refine Exists.intro _ (And.intro rfl ?_)
  refine ⟨fun f => ?_, fun f => ?_⟩
  · rw [show wS3 b k u = wName b (runP u) from if_pos (of_decide_eq_true f)]
    have kl_w : Lc (dScope (defAt 60)) "w" := ⟨by kernel_rfl, by kernel_rfl⟩
    have kl_v : Lc (dScope (defAt 60)) "v" := ⟨by kernel_rfl, by kernel_rfl⟩
    have kg_law_name : Gb (dScope (defAt 60)) "_law_name" := ⟨by kernel_rfl, by kernel_rfl⟩
    have kk_law_name := KF.d_lawName.keep
    have gg_law_name := KF.g_lawName
    have kg_law_run : Gb (dScope (defAt 60)) "_law_run" := ⟨by kernel_rfl, by kernel_rfl⟩
    have kk_law_run := KF.d_lawRun.keep
    have gg_law_run := KF.g_lawRun
    have hu := H.hu
    obtain ⟨e, he⟩ := name_fact (run_isName u)
    have hl := run_len u
    have y1 : (runP u).length ≤ 100000 := upto hl rfl
    have y2 : b.text.length + (runP u).length + 1 ≤ 100000 := ad (Nat.add_le_add H.text hl) (Nat.le_refl 1) rfl
    have y3 : b.name.length + (runP u).length ≤ 1000000 := ad H.name hl rfl
    with_reducible
     refine x_app ?_
     refine z_expr ‹_› ?_ (by k_dflt exact rfl)
     refine e_callNE ‹_› ‹_› ‹_› ‹_› ‹_› ‹_› (by tb_start) ?_ (by k_dflt exact rfl)
     refine e_call1 ‹_› ‹_› ‹_› ‹_› ‹_› ‹_› (by tb_start) ?_
     refine u_lawRun ‹_› ‹_› ‹_› ‹_› ‹_› ‹_› (by k_dflt decide) ?_; intro _ _ _ _ _ _ _ _
     refine And.intro (Exists.intro _ ‹_›) ?_
     refine u_lawName ‹_› ‹_› ‹_› ‹_› ‹_› ‹_› ‹_› ‹_› ‹_› (by k_dflt decide) ?_; intro _ _ _ _ _ _ _
     refine x_app ?_
     refine x_ret0 ?_
     refine z_done ‹_› ‹_› ?_
    exact ⟨rfl, by assumption, by lcg_sub⟩
  · with_reducible refine x_app0 ?_
    rw [show wS3 b k u = _ from if_neg (of_decide_eq_false f)]; exact pc4 H
structure Small (b : Bw) : Prop where
  text : b.text.length ≤ 90000
  name : b.name.length ≤ 90000
  toks : b.toks.length ≤ 90000
  flts : b.flts.length ≤ 90000
def PieceC (W : Wd) (A : Ad) (a : La) (b : Bw) (v : Nat) (news : Led) : Prop := ∀ t, Ct W A.lawPiece [.ref a.d, .int (v : Nat) t] 6 news (fun r l => r = .none ∧ BwS W a (wPiece b v) l ∧ Kp a.S news l)
theorem piece_all (KF : Kf W A) (B : BwS W a b news) (hb : Small b) {v : Nat} (hv : v < 2 ^ 40) : PieceC W A a b v news := by
  intro t
  rw [wPiece_S]
  with_reducible refine enter KF.d_lawPiece.fn (fun _ _ _ _ _ _ => by kernel_rfl) (locs (by kernel_rfl)) (by kernel_rfl) (by kernel_rfl) (by kernel_rfl) (of_decide_eq_true (by kernel_rfl)) ?_
  intro c base g m s h tk₀ S F N hm
  have hm_w : m ("w" : Str) = some _ := (hm _).trans rfl
  have hm_v : m ("v" : Str) = some _ := (hm _).trans rfl
  clear hm
  have kl_w : Lc (dScope (defAt 60)) "w" := ⟨by kernel_rfl, by kernel_rfl⟩
  have kl_v : Lc (dScope (defAt 60)) "v" := ⟨by kernel_rfl, by kernel_rfl⟩
  have kl_sort : Lc (dScope (defAt 60)) "sort" := ⟨by kernel_rfl, by kernel_rfl⟩
  have kl_words : Lc (dScope (defAt 60)) "words" := ⟨by kernel_rfl, by kernel_rfl⟩
  show wpAny _ _ (execs (_ :: _ :: _ :: (dBody (defAt 60)).drop 3) _) _ _ _
  with_reducible
   refine x_assign ?_ (by k_dflt exact rfl)
   refine e_binN ‹_› ‹_› ‹_› (by tb_start) ?_
   refine d_mod (by decide) ?_
   refine z_store ‹_› ‹_› ‹_› ‹_› ?_; intro _ _ _ _
   refine x_assign ?_ (by k_dflt exact rfl)
   refine e_binN ‹_› ‹_› ‹_› (by tb_start) ?_
   refine d_div (by decide) (by decide) ?_
   refine z_store ‹_› ‹_› ‹_› ‹_› ?_; intro _ _ _ _
   refine x_assign ?_ (by k_dflt exact rfl)
  rename_i h₁ tk₁ F₁ N₁ h₂ tk₂ F₂ N₂
  with_reducible refine b_tupS F₂ N₂ B (.cons (.cons (.cons (.cons (.cons (.cons (.cons (.cons (.cons (.cons (.cons (.cons .nil)))))))))))) (by k_dflt kernel_rfl) fun q vs h₃ tk₃ l₃ F₃ N₃ B₃ hq hqn K₃ hw1 hw2 => ?_
  with_reducible refine z_store ‹_› ‹_› ‹_› ‹_› ?_; intro _ _ _ _
  rename_i h₄ tk₄ F₄ N₄
  exact pc3 { S := S, KF := KF, F := F₄, N := N₄, B := B₃, K := K₃, text := hb.text, name := hb.name, toks := hb.toks, flts := hb.flts, hu := Nat.lt_of_le_of_lt (Nat.div_le_self v 16) hv, w := by tb_start, sort := ⟨_, by tb_start⟩, v := ⟨_, by tb_start⟩, words := ⟨q, vs, by tb_start, hq, hqn, hw1.trans (by kernel_rfl), hw2⟩ }
end
end Mine
end
section
open PySem PySem.W
set_option maxRecDepth 100000
namespace Mine
structure Bnd (b : Bw) (n : Nat) : Prop where
  text : b.text.length ≤ n
  name : b.name.length ≤ n
  toks : b.toks.length ≤ n
  flts : b.flts.length ≤ n
  code : ∀ k ∈ b.text, k < 1114112
theorem Bnd.mono {b : Bw} {n k : Nat} (h : Bnd b n) (hk : n ≤ k) : Bnd b k := ⟨Nat.le_trans h.1 hk, Nat.le_trans h.2 hk, Nat.le_trans h.3 hk, Nat.le_trans h.4 hk, h.5⟩
theorem Bnd.wEnd {b : Bw} {n : Nat} (h : Bnd b n) : Bnd (wEnd b) (n + 1) := by
  unfold Mine.wEnd
  split
  · exact h.mono (Nat.le_succ _)
  · exact ⟨Nat.le_succ_of_le h.1, Nat.zero_le _, by rw [List.length_append]; exact Nat.succ_le_succ h.3, Nat.le_succ_of_le h.4, h.5⟩
theorem Bnd.num {b : Bw} {n : Nat} {x : Bool} (h : Bnd b n) : Bnd { b with number := x } n := ⟨h.1, h.2, h.3, h.4, h.5⟩
def Codes (cs : Cs) : Prop := ∀ k ∈ cs, k < 1114112
theorem Codes.app {x y : Cs} (h : Codes x) (k : Codes y) : Codes (x ++ y) := fun c hc => (List.mem_append.mp hc).elim (h c) (k c)
theorem Bnd.gap {b : Bw} {n : Nat} {run : Cs} (h : Bnd b n) : (wGap b run).length ≤ n + 1 ∧ Codes (wGap b run) := by
  unfold wGap
  split
  · exact ⟨by rw [List.length_append]; exact Nat.succ_le_succ h.1, Codes.app h.5 (by unfold Codes; decide)⟩
  · exact ⟨Nat.le_succ_of_le h.1, h.5⟩
theorem Bnd.wName {b : Bw} {n k : Nat} {run : Cs} (h : Bnd b n) (hr : run.length ≤ k) (hc : Codes run) : Bnd (wName b run) (n + k + 1) := by
  have g := h.gap (run := run)
  refine ⟨?_, ?_, ?_, ?_, g.2.app hc⟩
  · show (wGap b run ++ run).length ≤ _
    rw [List.length_append]; have := g.1; lia
  · show (b.name ++ run).length ≤ _
    rw [List.length_append]; have := h.2; lia
  · have := h.3; show b.toks.length ≤ _; lia
  · have := h.4; show b.flts.length ≤ _; lia
theorem Bnd.put {b : Bw} {n k : Nat} {s : Cs} {t f : List Dat} (h : Bnd b n) (hs : s.length ≤ k) (ht : t.length ≤ k) (hf : f.length ≤ k) (hc : Codes s) : Bnd (wPut b s t f) (n + k) := by
  refine ⟨?_, ?_, ?_, ?_, Codes.app h.5 hc⟩
  · show (b.text ++ s).length ≤ _
    rw [List.length_append]; have := h.1; lia
  · have := h.2; show b.name.length ≤ _; lia
  · show (b.toks ++ t).length ≤ _
    rw [List.length_append]; have := h.3; lia
  · show (b.flts ++ f).length ≤ _
    rw [List.length_append]; have := h.4; lia
theorem Bnd.wNumber {b : Bw} {n : Nat} {d : Cs} {v : Int} (h : Bnd b n) (hd : d.length ≤ 2) (hc : Codes d) : Bnd (wNumber b d v) (n + 3) := by
  unfold Mine.wNumber
  split
  · exact h.wName hd hc
  · have g : (if b.number = true then b.text ++ [32] else b.text).length ≤ n + 1 ∧ Codes (if b.number = true then b.text ++ [32] else b.text) := by
      split
      · exact ⟨by rw [List.length_append]; exact Nat.succ_le_succ h.1, Codes.app h.5 (by unfold Codes; decide)⟩
      · exact ⟨Nat.le_succ_of_le h.1, h.5⟩
    refine ⟨?_, ?_, ?_, ?_, g.2.app hc⟩
    · show ((if b.number = true then b.text ++ [32] else b.text) ++ d).length ≤ _
      rw [List.length_append]; have := g.1; lia
    · have := h.2; show b.name.length ≤ _; lia
    · show (b.toks ++ [_]).length ≤ _
      rw [List.length_append]; have := h.3; show b.toks.length + 1 ≤ _; lia
    · have := h.4; show b.flts.length ≤ _; lia
theorem Bnd.wCode {b : Bw} {n c : Nat} (h : Bnd b n) (hc : c < 1114112) : Bnd (wCode b c) (n + 1) := by
  refine ⟨?_, ?_, ?_, ?_, Codes.app h.5 (fun k hk => by rw [List.mem_singleton.mp hk]; exact hc)⟩
  · show (b.text ++ [c]).length ≤ _
    rw [List.length_append]; exact Nat.succ_le_succ h.1
  · exact Nat.le_succ_of_le h.2
  · exact Nat.le_succ_of_le h.3
  · show (b.flts ++ [_]).length ≤ _
    rw [List.length_append]; exact Nat.succ_le_succ h.4
theorem Bnd.codes : ∀ {l : Cs} {b : Bw} {n : Nat}, Bnd b n → Codes l → Bnd (l.foldl Mine.wCode b) (n + l.length)
  | [], _, _, h, _ => h
  | c :: l, b, n, h, k => by
    have := (h.wCode (k c List.mem_cons_self)).codes (l := l) fun x hx => k x (List.mem_cons_of_mem _ hx)
    exact this.mono (by simp only [List.length_cons]; lia)
theorem Bnd.wStrange {b : Bw} {n k : Nat} {l : Cs} (h : Bnd b n) (hl : l.length ≤ k) (hc : Codes l) : Bnd (wStrange b l) (n + 1 + k) := (h.wEnd.num.codes hc).mono (Nat.add_le_add_left hl _)

theorem codes_get {l : Cs} (h : Codes l) (i : Nat) : l.getD i 0 < 1114112 := by
  rw [List.getD_eq_getElem?_getD]
  cases e : l[i]? with
  | none => exact (by decide)
  | some k => exact h k (List.mem_of_getElem? e)
theorem codes1 {c : Nat} (h : c < 1114112) : Codes [c] := fun k hk => by rw [List.mem_singleton.mp hk]; exact h
theorem codes_many : Codes many := by unfold Codes; decide
theorem codes_letters : Codes letters := by unfold Codes; decide
theorem codes_ones : Codes oneSigns := by unfold Codes; decide
theorem codes_blanks : Codes blanksP := by unfold Codes; decide
theorem codes_signs : Codes signs := by unfold Codes; decide
theorem codes_far : Codes far := by unfold Codes; decide
theorem codes_sf : Codes (signs ++ far) := by unfold Codes; decide
theorem codes_runP (v : Nat) : Codes (runP v) := by
  intro k hk
  unfold runP at hk
  rcases List.mem_cons.mp hk with rfl | hk
  · exact codes_get codes_letters _
  · obtain ⟨j, -, rfl⟩ := List.mem_map.mp hk
    refine codes_get ?_ _
    intro x hx
    simp only [List.mem_cons, List.not_mem_nil, or_false] at hx
    rcases hx with rfl | rfl | rfl | rfl
    · decide
    · decide
    · decide
    · exact codes_get codes_letters _
theorem len_runP (v : Nat) : (runP v).length ≤ 4 := by
  unfold runP
  rw [List.length_cons, List.length_map, List.length_range]
  lia
theorem codes_stuffP (v : Nat) : Codes (stuffP v) := by
  intro k hk
  obtain ⟨j, -, rfl⟩ := List.mem_map.mp hk
  exact codes_get codes_many _
theorem len_stuffP (v : Nat) : (stuffP v).length ≤ 4 := by
  unfold stuffP
  rw [List.length_map, List.length_range]
  lia
theorem tab_get {l : List Cs} {n : Nat} (h : ∀ x ∈ l, x.length ≤ n ∧ Codes x) (i : Nat) : (l.getD i []).length ≤ n ∧ Codes (l.getD i []) := by
  rw [List.getD_eq_getElem?_getD]
  cases e : l[i]? with
  | none => exact ⟨Nat.zero_le _, fun _ h => nomatch h⟩
  | some k => exact h k (List.mem_of_getElem? e)
theorem tab_words : ∀ x ∈ wordsP, x.length ≤ 8 ∧ Codes x := by unfold Codes; decide
theorem tab_mixed : ∀ x ∈ mixedP, x.length ≤ 8 ∧ Codes x := by unfold Codes; decide
theorem tab_nums (i : Nat) : (nums3.getD i ([], 0)).1.length ≤ 2 ∧ Codes (nums3.getD i ([], 0)).1 := by
  rw [List.getD_eq_getElem?_getD]
  have H : ∀ x ∈ nums3, x.1.length ≤ 2 ∧ Codes x.1 := by unfold Codes; decide
  cases e : nums3[i]? with
  | none => exact ⟨Nat.zero_le _, fun _ h => nomatch h⟩
  | some k => exact H k (List.mem_of_getElem? e)
theorem codes_cons {c : Nat} {l : Cs} (h : c < 1114112) (k : Codes l) : Codes (c :: l) := fun x hx => (List.mem_cons.mp hx).elim (fun e => e ▸ h) (k x)
theorem codes64 : Codes [64] := codes1 (by decide)
theorem codes55 : Codes [55] := codes1 (by decide)
theorem Bnd.wMore {b : Bw} {n s v : Nat} (h : Bnd b n) : Bnd (wMore b s v) (n + 18) := by
  have st := codes_stuffP v
  have sl := len_stuffP v
  unfold Mine.wMore
  dsimp only
  split
  · exact Bnd.mono (n := n + 1) (h.put (k := 1) (Nat.le_refl 1) (Nat.le_refl 1) (Nat.zero_le 1) (codes1 (codes_get codes_ones _))) (by lia)
  split
  · exact Bnd.mono (n := n + 1) (h.put (k := 1) (Nat.le_refl 1) (Nat.zero_le 1) (Nat.zero_le 1) (codes1 (codes_get codes_blanks _))) (by lia)
  split
  · exact Bnd.mono (n := n + 6) (h.put (k := 6) (by rw [List.length_cons, List.length_append]; show (stuffP v).length + 1 + 1 ≤ 6; lia) (show 1 ≤ 6 by decide) (Nat.zero_le _) (codes_cons (by decide) (st.app (by unfold Codes; decide)))) (by lia)
  split
  · exact Bnd.mono (n := n + 11) (h.put (k := 11) (by rw [List.length_cons, List.length_cons, List.length_append]; show (stuffP v).length + 5 + 1 + 1 ≤ 11; lia) (show 1 ≤ 11 by decide) (Nat.zero_le _) (codes_cons (by decide) (codes_cons (by decide) (st.app (by unfold Codes; decide))))) (by lia)
  split
  · exact Bnd.mono (n := n + 3) (h.put (k := 3) (Nat.le_refl 3) (show 1 ≤ 3 by decide) (by split; exact (show 1 ≤ 3 by decide); exact Nat.zero_le _) (codes_cons (by decide) (codes_cons (codes_get codes_many _) (by unfold Codes; decide)))) (by lia)
  split
  · split
    · exact Bnd.mono (n := n + 7) (h.put (k := 7) (by rw [List.length_cons, List.length_cons, List.length_append]; show (stuffP v).length + 1 + 1 + 1 ≤ 7; lia) (Nat.zero_le _) (Nat.zero_le _) (codes_cons (by decide) (codes_cons (by decide) (st.app (by unfold Codes; decide))))) (by lia)
    split
    · exact Bnd.mono (n := n + 7) (h.put (k := 7) (by rw [List.length_cons, List.length_cons, List.length_append]; show (stuffP v).length + 1 + 1 + 1 ≤ 7; lia) (Nat.zero_le _) (Nat.zero_le _) (codes_cons (by decide) (codes_cons (by decide) (st.app (by unfold Codes; decide))))) (by lia)
    · exact Bnd.mono (n := n + 8) (h.put (k := 8) (by rw [List.length_cons, List.length_cons, List.length_append]; show (stuffP v).length + 2 + 1 + 1 ≤ 8; lia) (Nat.zero_le _) (Nat.zero_le _) (codes_cons (by decide) (codes_cons (by decide) (st.app (by unfold Codes; decide))))) (by lia)
  split
  · have p : Bnd (wPut b [64] [] []) (n + 1) := h.put (Nat.le_refl 1) (Nat.zero_le 1) (Nat.zero_le 1) codes64
    have q : Bnd { wPut b [64] [] [] with begin := b.text.length, marked := true } (n + 1) := ⟨p.1, p.2, p.3, p.4, p.5⟩
    have r : (if v % 3 = 0 then runP (v / 3) else wordsP.getD (v / 3 % 12) []).length ≤ 8 ∧ Codes (if v % 3 = 0 then runP (v / 3) else wordsP.getD (v / 3 % 12) []) := by
      split
      · exact ⟨Nat.le_trans (len_runP _) (by decide), codes_runP _⟩
      · exact tab_get tab_words _
    exact (q.wName r.1 r.2).mono (by lia)
  have p : Bnd (wPut b [64] [] [fltD 1646 b.text.length []]) (n + 1) := h.put (Nat.le_refl 1) (Nat.zero_le 1) (Nat.le_refl 1) codes64
  split
  · exact Bnd.mono (n := n + 1 + 1 + 1) (p.wStrange (k := 1) (Nat.le_refl 1) (codes1 (codes_get codes_sf _))) (by lia)
  · exact Bnd.mono (n := n + 1 + 3) (p.wNumber (show 1 ≤ 2 by decide) codes55) (by lia)
theorem Bnd.wPiece {b : Bw} {n v : Nat} (h : Bnd b n) : Bnd (wPiece b v) (n + 20) := by
  unfold Mine.wPiece
  dsimp only
  split
  · exact Bnd.mono (n := n + 4 + 1) (h.wName (len_runP _) (codes_runP _)) (by lia)
  split
  · exact Bnd.mono (n := n + 8 + 1) (h.wName (tab_get tab_words _).1 (tab_get tab_words _).2) (by lia)
  split
  · exact Bnd.mono (n := n + 8 + 1) (h.wName (tab_get tab_mixed _).1 (tab_get tab_mixed _).2) (by lia)
  split
  · exact Bnd.mono (n := n + 3) (h.wNumber (tab_nums _).1 (tab_nums _).2) (by lia)
  split
  · exact Bnd.mono (n := n + 1 + 1) (h.wStrange (k := 1) (Nat.le_refl 1) (codes1 (codes_get codes_signs _))) (by lia)
  split
  · exact Bnd.mono (n := n + 1 + 2) (h.wStrange (k := 2) (Nat.le_refl 2) (codes_cons (codes_get codes_far _) (codes1 (codes_get codes_far _)))) (by lia)
  · exact h.wEnd.num.wMore.mono (by lia)
theorem Bnd.fold : ∀ {l : List Nat} {b : Bw} {n : Nat}, Bnd b n → Bnd (l.foldl Mine.wPiece b) (n + 20 * l.length)
  | [], _, _, h => h
  | v :: l, b, n, h => ((h.wPiece (v := v)).fold (l := l)).mono (by simp only [List.length_cons]; lia)
theorem Codes.turn {l : Cs} (h : Codes l) (i : Nat) : Codes (l.drop i ++ l.take i) := Codes.app (fun k hk => h k (List.mem_of_mem_drop hk)) fun k hk => h k (List.mem_of_mem_take hk)
theorem turn_len {l : Cs} (i : Nat) : (l.drop i ++ l.take i).length = l.length := by
  rw [List.length_append, List.length_drop, List.length_take]; lia
theorem bnd_start (n : Nat) : Bnd (wStart n) 100 := by
  have h0 : Bnd w0 0 := ⟨Nat.le_refl _, Nat.le_refl _, Nat.le_refl _, Nat.le_refl _, fun _ h => nomatch h⟩
  exact ((h0.wName (k := 46) (by rw [turn_len]; decide) (codes_letters.turn _)).wStrange (k := 37) (by rw [turn_len]; decide) (codes_sf.turn _)).mono (by lia)
theorem bnd_all {nums : List Nat} (h : nums.length ≤ 40) : Bnd (wAll nums) 1000 := by
  exact ((bnd_start (nums.headD 0)).fold (l := nums)).wEnd.mono (by lia)
end Mine
end
section
open PySem PySem.W
set_option Elab.async false
set_option maxRecDepth 100000
namespace Mine
theorem ok_str {cs : Cs} (h : Codes cs) : kqdOk 6 (strD cs) = true := by
  show PyData.strOk _ = true
  unfold PyData.strOk
  simp only [Array.all_eq_true', List.mem_toArray]
  intro x hx
  have := h x hx
  simp; lia
end Mine
namespace Mine
def Oks (ds : List Dat) : Prop := ∀ d ∈ ds, kqdOk 8 d = true
theorem Oks.app {x y : List Dat} (h : Oks x) (k : Oks y) : Oks (x ++ y) := fun d hd => (List.mem_append.mp hd).elim (h d) (k d)
theorem Oks.nil : Oks [] := fun _ h => nomatch h
theorem Oks.one {d : Dat} (h : kqdOk 8 d = true) : Oks [d] := fun x hx => by rw [List.mem_singleton.mp hx]; exact h
theorem ok_strN {cs : Cs} {n : Nat} (h : Codes cs) : kqdOk n (strD cs) = true := by
  cases n <;> exact ok_str h
theorem ok_tokS {k : Int} {at' : Nat} {cs : Cs} (h : Codes cs) : kqdOk 8 (tokD k (strD cs) at') = true := by
  have : kqdOk 7 (strD cs) = true := ok_strN h
  show (kqdOk 7 (.int k) && (kqdOk 7 (strD cs) && (kqdOk 7 (.int at') && true))) = true
  rw [this]; rfl
theorem ok_fltS {k : Int} {at' : Nat} {cs : Cs} (h : Codes cs) : kqdOk 8 (fltD k at' [strD cs]) = true := by
  have : kqdOk 6 (strD cs) = true := ok_strN h
  show (kqdOk 7 (.int k) && (kqdOk 7 (.int at') && ((kqdOk 6 (strD cs) && true) && true))) = true
  rw [this]; rfl
theorem ok_tokN (v : Int) (at' : Nat) : kqdOk 8 (tokD 3 (.tuple [.int v, strD []]) at') = true := by
  have : kqdOk 6 (strD []) = true := ok_strN fun _ h => nomatch h
  show (kqdOk 7 (.int 3) && ((kqdOk 6 (.int v) && (kqdOk 6 (strD []) && true)) && (kqdOk 7 (.int at') && true))) = true
  rw [this]; rfl
structure OkB (b : Bw) : Prop where
  name : Codes b.name
  toks : Oks b.toks
  flts : Oks b.flts
theorem OkB.num {b : Bw} {x : Bool} (h : OkB b) : OkB { b with number := x } := ⟨h.1, h.2, h.3⟩
theorem OkB.wEnd {b : Bw} (h : OkB b) : OkB (wEnd b) := by
  unfold Mine.wEnd
  split
  · exact h
  · refine ⟨(fun _ h => nomatch h), h.2.app (.one ?_), h.3⟩
    unfold endTok
    split
    · exact ok_tokS h.1
    split
    · exact ok_tokS (codes_cons (by decide) h.1)
    · exact ok_tokS h.1
theorem OkB.wName {b : Bw} {run : Cs} (h : OkB b) (hc : Codes run) : OkB (wName b run) := ⟨h.1.app hc, h.2, h.3⟩
theorem OkB.wNumber {b : Bw} {d : Cs} {v : Int} (h : OkB b) (hc : Codes d) : OkB (wNumber b d v) := by
  unfold Mine.wNumber
  split
  · exact h.wName hc
  · exact ⟨h.1, h.2.app (.one (ok_tokN _ _)), h.3⟩
theorem OkB.wCode {b : Bw} {c : Nat} (h : OkB b) (hc : c < 1114112) : OkB (wCode b c) := ⟨h.1, h.2, h.3.app (.one (ok_fltS (codes1 hc)))⟩
theorem OkB.codes : ∀ {l : Cs} {b : Bw}, OkB b → Codes l → OkB (l.foldl Mine.wCode b)
  | [], _, h, _ => h
  | c :: l, _, h, k => (h.wCode (k c List.mem_cons_self)).codes (l := l) fun x hx => k x (List.mem_cons_of_mem _ hx)
theorem OkB.wStrange {b : Bw} {l : Cs} (h : OkB b) (hc : Codes l) : OkB (wStrange b l) := h.wEnd.num.codes hc
theorem OkB.put {b : Bw} {s : Cs} {t f : List Dat} (h : OkB b) (ht : Oks t) (hf : Oks f) : OkB (wPut b s t f) := ⟨h.1, h.2.app ht, h.3.app hf⟩
theorem codes_units {cs : Cs} (h : Codes cs) : Codes (units cs) := by
  intro k hk
  obtain ⟨c, hc, hk⟩ := List.mem_flatMap.mp hk
  have := h c hc
  unfold unit1 at hk
  split at hk
  · rw [List.mem_singleton.mp hk]; exact this
  · rcases List.mem_cons.mp hk with rfl | hk
    · lia
    · rw [List.mem_singleton.mp hk]; lia
theorem codes34_10 : Codes [34, 10] := codes_cons (by decide) (codes1 (by decide))
theorem OkB.wMore {b : Bw} {s v : Nat} (h : OkB b) : OkB (wMore b s v) := by
  have st := codes_stuffP v
  unfold Mine.wMore
  dsimp only
  split
  · exact OkB.put h (Oks.one (ok_tokS (codes1 (codes_get codes_ones _)))) Oks.nil
  split
  · exact OkB.put h Oks.nil Oks.nil
  split
  · exact OkB.put h (Oks.one (ok_tokS (codes_units st))) Oks.nil
  split
  · exact OkB.put h (Oks.one (ok_tokS ((codes_units st).app codes34_10))) Oks.nil
  split
  · refine OkB.put h (Oks.one rfl) ?_
    split
    · exact Oks.one rfl
    · exact Oks.nil
  split
  · split
    · exact OkB.put h Oks.nil Oks.nil
    split
    · exact OkB.put h Oks.nil Oks.nil
    · exact OkB.put h Oks.nil Oks.nil
  split
  · have p : OkB (wPut b [64] [] []) := OkB.put h Oks.nil Oks.nil
    have q : OkB { wPut b [64] [] [] with begin := b.text.length, marked := true } := ⟨p.1, p.2, p.3⟩
    refine q.wName ?_
    split
    · exact codes_runP _
    · exact (tab_get tab_words _).2
  have p : OkB (wPut b [64] [] [fltD 1646 b.text.length []]) := OkB.put h Oks.nil (Oks.one rfl)
  split
  · exact p.wStrange (codes1 (codes_get codes_sf _))
  · exact p.wNumber codes55
theorem OkB.wPiece {b : Bw} {v : Nat} (h : OkB b) : OkB (wPiece b v) := by
  unfold Mine.wPiece
  dsimp only
  split
  · exact h.wName (codes_runP _)
  split
  · exact h.wName (tab_get tab_words _).2
  split
  · exact h.wName (tab_get tab_mixed _).2
  split
  · exact h.wNumber (tab_nums _).2
  split
  · exact h.wStrange (codes1 (codes_get codes_signs _))
  split
  · exact h.wStrange (codes_cons (codes_get codes_far _) (codes1 (codes_get codes_far _)))
  · exact h.wEnd.num.wMore
theorem OkB.fold : ∀ {l : List Nat} {b : Bw}, OkB b → OkB (l.foldl Mine.wPiece b)
  | [], _, h => h
  | _ :: l, _, h => h.wPiece.fold (l := l)
theorem ok_start (n : Nat) : OkB (wStart n) := by
  have h0 : OkB w0 := ⟨(fun _ h => nomatch h), Oks.nil, Oks.nil⟩
  exact (h0.wName (codes_letters.turn _)).wStrange (codes_sf.turn _)
end Mine
end
section
open PySem PySem.W PySem.Calls PySem.Spec PyProof.Rows
set_option Elab.async false
set_option maxRecDepth 100000
namespace Mine
section
theorem Bnd.small {b : Bw} {n : Nat} (h : Bnd b n) (hn : n ≤ 90000) : Small b := ⟨Nat.le_trans h.1 hn, Nat.le_trans h.2 hn, Nat.le_trans h.3 hn, Nat.le_trans h.4 hn⟩
end
section
variable {W : Wd} {A : Ad} {a : La} {b : Bw} {base g h : Heap} {c : Cx} {sc : Scope} {n : Nat} {m : Str → Option Value} {news : Led} {s : Shared} {tk' : Nat} {E : Value → Shared → Prop} {Q : Value → Shared → Prop} {t : Tok}
theorem u_lawPiece {v k : Nat} (S : Wk W base c g sc n) (F : Fr g c.L h m) (N : News g c.L h news) (KF : Kf W A) (B : BwS W a b news) (hb : Bnd b k) (hk : k ≤ 90000) (hv : v < 2 ^ 40) (hn : 6 ≤ n)
    (hq : ∀ h' tk' news', Fr g c.L h' m → News g c.L h' news' → BwS W a (wPiece b v) news' → Kp a.S news news' → Q .none (st s h' tk')) : wpAny W.M c.A (call (.ref A.lawPiece) [.ref a.d, .int (v : Nat) t]) Q E (st s h tk') :=
  z_use S F N (piece_all KF B (hb.small hk) hv t) hn fun r l h' tk' F' N' p => by obtain ⟨rfl, B', K'⟩ := p; exact hq h' tk' l F' N' B' K'
end
end Mine
end
section
open PySem PySem.W PySem.Calls PySem.Spec PyProof.Rows
set_option Elab.async false
set_option maxRecDepth 100000
set_option maxHeartbeats 2000000
namespace Mine
section
variable {prog : Program} {w : World} {A : Around} {E : Value → Shared → Prop} {s : Shared} {h₀ : Heap} {L a b : Addr} {news n₁ n₂ : Led} {xs ys : List Value} {ka kb : Nat} {ds es : List Dat} {Q : Value → Shared → Prop}
open Classical in
theorem z_eqD (N : News h₀ L s.heap news) (ma : (a, listOf xs.toArray ka) ∈ news) (Da : DatAll n₁ xs ds) (sa : ∀ p ∈ n₁, p ∈ news) (mb : (b, listOf ys.toArray kb) ∈ news) (Db : DatAll n₂ ys es) (sb : ∀ p ∈ n₂, p ∈ news)
    (ha : ∀ d ∈ ds, kqdOk 8 d = true) (e : ds = es) (hu : A.units + 64 < cLine) (h : Q (.bool true) s) : wpAny (model prog w) A (compareOp .Eq (.ref a) (.ref b)) Q E s := by
  refine kqd_eq N ma rfl rfl Da sa mb rfl rfl Db sb ha (by rw [← e]; exact ha) hu ?_
  rw [decide_eq_true e]
  exact h
end
section
variable {W : Wd} {A : Ad} {a : La} {b : Bw} {base g h : Heap} {c : Cx} {m : Str → Option Value} {news : Led} {s : Shared} {tk : Nat}
theorem law_end (S : Wk W base c g (dScope (defAt 61)) 12) (KF : Kf W A) (F : Fr g c.L h m) (N : News g c.L h news) (B : BwS W a b news) (hm_w : m ("w" : Str) = some (.ref a.d)) (hb : Bnd b 900) (ho : OkB b) (hlx : Lexes 0 (wEnd b).text (wEnd b).toks (wEnd b).flts) :
    wpAny W.M c.A (execs ((dBody (defAt 61)).drop 9) c.env) (Done c g s (fun r _ => r = .bool true)) NoE (st s h tk) := by
  have hb' := hb.wEnd
  have y1 : b.toks.length ≤ 100000 := Nat.le_trans hb.3 (by decide)
  have y2 : b.name.length ≤ 900000 := Nat.le_trans hb.2 (by decide)
  have z1 : (wEnd b).text.length ≤ 100000 := Nat.le_trans hb'.1 (by decide)
  have z2 : (wEnd b).toks.length ≤ 100000 := Nat.le_trans hb'.3 (by decide)
  have kl_script : Lc (dScope (defAt 61)) "script" := ⟨by kernel_rfl, by kernel_rfl⟩
  have kl_nums : Lc (dScope (defAt 61)) "nums" := ⟨by kernel_rfl, by kernel_rfl⟩
  have kl_w : Lc (dScope (defAt 61)) "w" := ⟨by kernel_rfl, by kernel_rfl⟩
  have kl_turn : Lc (dScope (defAt 61)) "turn" := ⟨by kernel_rfl, by kernel_rfl⟩
  have kl_v : Lc (dScope (defAt 61)) "v" := ⟨by kernel_rfl, by kernel_rfl⟩
  have kl_diags : Lc (dScope (defAt 61)) "diags" := ⟨by kernel_rfl, by kernel_rfl⟩
  have kg_law_name : Gb (dScope (defAt 61)) "_law_name" := ⟨by kernel_rfl, by kernel_rfl⟩
  have kk_law_name := KF.d_lawName.keep
  have gg_law_name := KF.g_lawName
  have kg_law_strange : Gb (dScope (defAt 61)) "_law_strange" := ⟨by kernel_rfl, by kernel_rfl⟩
  have kk_law_strange := KF.d_lawStrange.keep
  have gg_law_strange := KF.g_lawStrange
  have kg_law_end : Gb (dScope (defAt 61)) "_law_end" := ⟨by kernel_rfl, by kernel_rfl⟩
  have kk_law_end := KF.d_lawEnd.keep
  have gg_law_end := KF.g_lawEnd
  have kg_Diags : Gb (dScope (defAt 61)) "Diags" := ⟨by kernel_rfl, by kernel_rfl⟩
  have kk_Diags := KF.mkDiags.2
  have gg_Diags := KF.g_Diags
  have kg_law_piece : Gb (dScope (defAt 61)) "_law_piece" := ⟨by kernel_rfl, by kernel_rfl⟩
  have kk_law_piece := KF.d_lawPiece.keep
  have gg_law_piece := KF.g_lawPiece
  have kg_TK_END : Gb (dScope (defAt 61)) "TK_END" := ⟨by kernel_rfl, by kernel_rfl⟩
  obtain ⟨ti_TK_END, gg_TK_END⟩ := KF.i_TK_END
  have kg_len : Gb (dScope (defAt 61)) "len" := ⟨by kernel_rfl, by kernel_rfl⟩
  have kg_lex : Gb (dScope (defAt 61)) "lex" := ⟨by kernel_rfl, by kernel_rfl⟩
  have kk_lex := KF.d_lex.keep
  have gg_lex := KF.g_lex
  have kg_law_SIGNS : Gb (dScope (defAt 61)) "_law_SIGNS" := ⟨by kernel_rfl, by kernel_rfl⟩
  have gg_law_SIGNS := KF.t_lawSigns.1
  have kg_law_FAR : Gb (dScope (defAt 61)) "_law_FAR" := ⟨by kernel_rfl, by kernel_rfl⟩
  have gg_law_FAR := KF.t_lawFar.1
  have kg_law_LETTERS : Gb (dScope (defAt 61)) "_law_LETTERS" := ⟨by kernel_rfl, by kernel_rfl⟩
  have gg_law_LETTERS := KF.t_lawLetters.1
  show wpAny _ _ (execs (_ :: _) _) _ _ _
  with_reducible
   refine z_expr ‹_› ?_ (by k_dflt exact rfl)
   refine e_call1 ‹_› ‹_› ‹_› ‹_› ‹_› ‹_› (by tb_start) ?_
   refine u_lawEnd ‹_› ‹_› ‹_› ‹_› ‹_› ‹_› ‹_› (by k_dflt decide) ?_; intro _ _ _ _ _ _ _
   refine z_expr ‹_› ?_ (by k_dflt exact rfl)
   refine PyProof.Rows.MethodCall_ ?_ (by k_dflt exact rfl)
   refine b_tokens ‹_› ‹_› ‹_› ‹_› ‹_› (by tb_start) ?_; intro _
   refine b_appT ‹_› ‹_› ?_
   refine PyProof.Rows.callWith_method1 ?_ (by k_dflt exact rfl) (by k_dflt exact rfl)
   refine z_args ?_ (by k_dflt exact rfl)
   refine PyProof.Rows.Tuple_ ?_
   refine z_args ?_ (by k_dflt exact rfl)
   refine z_global ‹_› ‹_› ‹_› ‹_› ?_
   refine z_args ?_ (by k_dflt exact rfl)
   refine d_str ?_
   refine z_args ?_ (by k_dflt exact rfl)
   refine e_built ‹_› ‹_› ‹_› (Kf.b_len ‹_›) boot_len (by decide) ?_ (by k_dflt exact rfl)
   refine b_text ‹_› ‹_› ‹_› ‹_› ‹_› (by tb_start) ?_; intro _ _
   refine d_len ‹_› ?_
   refine z_args0 ?_
   refine b_tup ‹_› ‹_› ‹_› (aparts_cons Apart.int (aparts_cons Apart.str (aparts_cons Apart.int aparts_nil))) (by k_dflt exact Nat.le_of_ble_eq_true rfl) ?_; intro _ _ _ _ _ _ _ _ _
   refine z_args0 ?_
   refine call_app1 ?_
   refine b_pushT ‹_› ‹_› ‹_› ‹_› ‹_› ?_; intro _ _ _ _ _ _ _
   refine x_assign ?_ (by k_dflt exact rfl)
   refine v_call ?_
   refine z_global ‹_› ‹_› ‹_› ‹_› ?_
   refine z_call0 ‹_› ‹_› ‹_› ?_
  rename_i h₁ tk₁ l₁ F₁ N₁ B₁ K₁ _ _ _ q h₂ tk₂ l₂ F₂ N₂ B₂ K₂ _ h₃ tk₃ l₃ F₃ N₃ B₃ K₃
  have ho' := ho.wEnd
  with_reducible refine u_newDiags S F₃ N₃ KF (by decide) fun x dx R h₄ tk₄ l₄ F₄ N₄ D₄ q₄ => ?_
  obtain ⟨sub₄, nr₄⟩ := q₄
  have B₄ := B₃.keep sub₄
  clear F₁ N₁ B₁ K₁ F₂ N₂ B₂ K₂ F₃ N₃
  with_reducible
   refine z_store ‹_› ‹_› ‹_› ‹_› ?_; intro _ _ _ _
   refine x_ret ?_
   refine v_and ?_
   refine v_cmp ?_
   refine v_call ?_
   refine z_global ‹_› ‹_› ‹_› ‹_› ?_
   refine z_call ‹_› ‹_› ?_ (by k_dflt exact rfl) (by k_dflt exact rfl)
   refine z_args ?_ (by k_dflt exact rfl)
   refine b_text ‹_› ‹_› ‹_› ‹_› ‹_› (by tb_start) ?_; intro _ _
   refine z_args ?_ (by k_dflt exact rfl)
   refine z_local ‹_› ‹_› ‹_› (by tb_start) ?_
   refine z_args0 ?_
   refine And.intro (Exists.intro _ ‹_›) ?_
  rename_i h₅ tk₅ F₅ N₅ t₅ tk₆
  have z3 : (wEnd b).flts.length ≤ 100000 := Nat.le_trans hb'.4 (by decide)
  with_reducible refine z_use S F₅ N₅ (ct_lex (t := t₅) KF hlx z1 hb'.5 z2 z3 D₄) (by decide) fun r l₆ h₆ tk₆ F₆ N₆ p => ?_
  obtain ⟨T, vs, ws, k1, k2, tl, rfl, hT, hR, dT, dR, sub₆, K₆⟩ := p
  obtain ⟨nR, hR₄⟩ := D₄.rows
  obtain ⟨es, k3, hdx, hrow, hput⟩ := D₄.dict
  have x1 : x ∉ ([R] : List Addr) := fun hx => news_ne N₄ D₄.inst hR₄ (fun e => by cases congrArg Obj.data e) (List.mem_singleton.mp hx)
  have x2 : dx ∉ ([R] : List Addr) := fun hx => news_ne N₄ hdx hR₄ (fun e => by cases congrArg Obj.data e) (List.mem_singleton.mp hx)
  have B₆ := B₄.kp K₆ (fun hx => by obtain ⟨o, _, q, _⟩ := B₃.dict; exact nr₄ _ q (List.mem_singleton.mp hx)) (fun hx => by obtain ⟨_, _, _, _, _, q, _⟩ := B₃.data; exact nr₄ _ q (List.mem_singleton.mp hx))
    (fun hx => by obtain ⟨_, _, _, _, _, _, q, _⟩ := B₃.data; exact nr₄ _ q (List.mem_singleton.mp hx)) (fun p hp hc hx => news_ne N₄ hp hR₄ (fun e => by rw [e] at hc; injection hc with hc; exact absurd hc (by decide)) (List.mem_singleton.mp hx))
  have i₆ := K₆ _ D₄.inst x1
  have j₆ := K₆ _ hdx x2
  clear B₃ B₄ N₅ F₅ N₄ F₄ K₃ nr₄ sub₄
  have hun : c.A.units + 64 < cLine := by have := S.room.un; show c.un + 64 < _; unfold cLine; lia
  with_reducible refine b_tokens ‹_› ‹_› ‹_› ‹_› ‹_› (by tb_start) ?_; intro _
  obtain ⟨vs', ws', n1, n2, tl', e1, e2, e3, e4, e5⟩ := B₆.data
  have e5' : ∀ p ∈ tl', p ∈ l₆ := fun p hp => (e5 p hp).1
  have nl : Codes [] := fun _ hx => nomatch hx
  have eqT : ∀ n, ((wEnd b).toks ++ [tokD 0 (strD []) n]) = ((wEnd b).toks ++ [Dat.tuple [Dat.int 0, Dat.str (Str.ofString ""), Dat.int (n : Nat)]]) := fun n => by rw [lit_nil]; rfl
  have k1' := ho'.2.app (.one (ok_tokS (k := 0) (at' := (wEnd b).text.length) nl))
  refine z_eqD N₆ hT dT sub₆ e1 e3 e5' k1' (eqT _) hun ?_
  refine ⟨true, rfl, fun _ => ?_, fun q => nomatch q⟩
  with_reducible
   refine v_one ?_
   refine v_cmp ?_
  with_reducible refine z_attr S F₆ N₆ kl_diags upd_hit KF.kDiags i₆ j₆ ?_ hrow ?_ ?_
  · decide
  · rfl
  intro _
  with_reducible refine b_faults ‹_› ‹_› ‹_› ‹_› ‹_› (by tb_start) ?_; intro _
  exact z_eqD N₆ hR dR sub₆ e2 e4 e5' ho'.3 rfl hun ⟨h₆, _, _, l₆, rfl, F₆, N₆, rfl⟩
end
end Mine
end
section
open PySem PySem.W PySem.Calls PySem.Spec PyProof.Rows
set_option Elab.async false
set_option maxRecDepth 100000
set_option maxHeartbeats 2000000
namespace Mine
section
variable {W : Wd} {A : Ad} {a : La} {b : Bw} {base g h : Heap} {c : Cx} {m : Str → Option Value} {news : Led} {s : Shared} {tk : Nat}
theorem law_loop {ax : Addr} {nums : Cs} (S : Wk W base c g (dScope (defAt 61)) 12) (KF : Kf W A) (F : Fr g c.L h m) (N : News g c.L h news) (B : BwS W a (wStart (nums.headD 0)) news) (hm_w : m ("w" : Str) = some (.ref a.d)) (hm_nums : m ("nums" : Str) = some (.ref ax))
    (H : IntsAt ax nums news) (hax : ax ∉ a.S) (hl : nums.length ≤ 40) (hv : ∀ v ∈ nums, v < 2 ^ 40) :
    wpAny W.M c.A (execs ((dBody (defAt 61)).drop 8) c.env) (Done c g s (fun r _ => r = .bool true)) NoE (st s h tk) := by
  have kl_script : Lc (dScope (defAt 61)) "script" := ⟨by kernel_rfl, by kernel_rfl⟩
  have kl_nums : Lc (dScope (defAt 61)) "nums" := ⟨by kernel_rfl, by kernel_rfl⟩
  have kl_w : Lc (dScope (defAt 61)) "w" := ⟨by kernel_rfl, by kernel_rfl⟩
  have kl_turn : Lc (dScope (defAt 61)) "turn" := ⟨by kernel_rfl, by kernel_rfl⟩
  have kl_v : Lc (dScope (defAt 61)) "v" := ⟨by kernel_rfl, by kernel_rfl⟩
  have kl_diags : Lc (dScope (defAt 61)) "diags" := ⟨by kernel_rfl, by kernel_rfl⟩
  have kg_law_name : Gb (dScope (defAt 61)) "_law_name" := ⟨by kernel_rfl, by kernel_rfl⟩
  have kk_law_name := KF.d_lawName.keep
  have gg_law_name := KF.g_lawName
  have kg_law_strange : Gb (dScope (defAt 61)) "_law_strange" := ⟨by kernel_rfl, by kernel_rfl⟩
  have kk_law_strange := KF.d_lawStrange.keep
  have gg_law_strange := KF.g_lawStrange
  have kg_law_end : Gb (dScope (defAt 61)) "_law_end" := ⟨by kernel_rfl, by kernel_rfl⟩
  have kk_law_end := KF.d_lawEnd.keep
  have gg_law_end := KF.g_lawEnd
  have kg_Diags : Gb (dScope (defAt 61)) "Diags" := ⟨by kernel_rfl, by kernel_rfl⟩
  have kk_Diags := KF.mkDiags.2
  have gg_Diags := KF.g_Diags
  have kg_law_piece : Gb (dScope (defAt 61)) "_law_piece" := ⟨by kernel_rfl, by kernel_rfl⟩
  have kk_law_piece := KF.d_lawPiece.keep
  have gg_law_piece := KF.g_lawPiece
  have kg_TK_END : Gb (dScope (defAt 61)) "TK_END" := ⟨by kernel_rfl, by kernel_rfl⟩
  obtain ⟨ti_TK_END, gg_TK_END⟩ := KF.i_TK_END
  have kg_len : Gb (dScope (defAt 61)) "len" := ⟨by kernel_rfl, by kernel_rfl⟩
  have kg_lex : Gb (dScope (defAt 61)) "lex" := ⟨by kernel_rfl, by kernel_rfl⟩
  have kk_lex := KF.d_lex.keep
  have gg_lex := KF.g_lex
  have kg_law_SIGNS : Gb (dScope (defAt 61)) "_law_SIGNS" := ⟨by kernel_rfl, by kernel_rfl⟩
  have gg_law_SIGNS := KF.t_lawSigns.1
  have kg_law_FAR : Gb (dScope (defAt 61)) "_law_FAR" := ⟨by kernel_rfl, by kernel_rfl⟩
  have gg_law_FAR := KF.t_lawFar.1
  have kg_law_LETTERS : Gb (dScope (defAt 61)) "_law_LETTERS" := ⟨by kernel_rfl, by kernel_rfl⟩
  have gg_law_LETTERS := KF.t_lawLetters.1
  show wpAny _ _ (execs (_ :: _) _) _ _ _
  with_reducible refine x_for ?_ (fun _ => by with_unfolding_all rfl)
  with_reducible refine z_local ‹_› ‹_› ‹_› (by tb_start) ?_
  with_reducible refine for_ints (fun i m' l => m' ("w" : Str) = some (.ref a.d) ∧ BwS W a ((nums.take i).foldl wPiece (wStart (nums.headD 0))) l ∧ Kp a.S news l) S (by assumption) F N H hax ?_ ?_ ?_ ?_
  · exact ⟨hm_w, B, Kp.refl⟩
  · exact fun i m' l q => q.2.2
  · rintro i k t₃ h₃ tk₃ m₃ l₃ I oI hk hf₃ hcI F₃ N₃ hfr ⟨hm, B₃, K₃⟩
    have hil : i < nums.length := (List.getElem?_eq_some_iff.mp hk).1
    have hkc : k < 2 ^ 40 := hv k (List.mem_of_getElem? hk)
    have hst : (nums.take (i + 1)).foldl wPiece (wStart (nums.headD 0)) = wPiece ((nums.take i).foldl wPiece (wStart (nums.headD 0))) k := by
      rw [List.take_succ_eq_append_getElem hil, (List.getElem?_eq_some_iff.mp hk).2, List.foldl_append]; rfl
    have hbi := (bnd_start (nums.headD 0)).fold (l := nums.take i)
    have hti : 100 + 20 * (nums.take i).length ≤ 90000 := by rw [List.length_take]; lia
    have hI : I ∉ a.S := B₃.fresh hfr
    have B₄ : BwS W a ((nums.take i).foldl wPiece (wStart (nums.headD 0))) ((I, oI) :: l₃) := B₃.keep fun p hp => .tail _ hp
    clear B B₃ hm_w
    with_reducible
     refine z_expr ‹_› ?_ (by k_dflt exact rfl)
     refine e_call2 ‹_› ‹_› ‹_› ‹_› ‹_› ‹_› (by tb_start) ‹_› (by tb_start) ?_
    with_reducible refine u_lawPiece S F₃ N₃ KF B₄ hbi hti hkc (by decide) fun h₅ tk₅ l₅ F₅ N₅ B₅ K₅ => ?_
    with_reducible refine x_nil ?_
    have hmI : (I, oI) ∈ l₅ := K₅ _ (.head _) hI
    with_reducible refine for_next F₅ N₅ hmI fun l'' hl'' => ?_
    refine ⟨by tb_start, by rw [hst]; exact B₅.turn N₅ hI hmI hcI hl'', fun p hp hn => hl'' p (K₅ p (.tail _ (K₃ p hp hn)) hn) (hf₃ p hp)⟩
  · rintro h₃ tk₃ m₃ l₃ F₃ N₃ ⟨hm, B₃, K₃⟩
    rw [List.take_length] at B₃
    have hbi := (bnd_start (nums.headD 0)).fold (l := nums)
    exact law_end S KF F₃ N₃ B₃ hm (hbi.mono (by lia)) ((ok_start (nums.headD 0)).fold (l := nums)) (law_lexes nums)
end
end Mine
end
section
open PySem PySem.W PySem.Calls PySem.Spec PyProof.Rows
set_option Elab.async false
set_option maxRecDepth 100000
set_option maxHeartbeats 2000000
namespace Mine
section
variable {W : Wd} {base g h : Heap} {c : Cx} {sc : Scope} {n : Nat} {m : Str → Option Value} {news : Led} {s : Shared} {tk' : Nat} {E : Value → Shared → Prop} {Q : Value → Shared → Prop} {t u : Tok} {ax bx : Addr} {ns ms : Cs}
def TL (ax : Addr) (ns : Cs) (news : Led) : Prop := ∃ vs, IntsAre vs (asI ns) ∧ (ax, tupOf vs) ∈ news
theorem TL.ti {W : Wd} (h : TL ax ns news) : TI W ax ns news := .inr h
theorem TL.mk' : ∀ q vs ks l, IntsAre vs (asI ks) → (q, tupOf vs) ∈ l → TL q ks l := fun _ vs _ _ h k => ⟨vs, h, k⟩
theorem TL.sub {news' : Led} (h : TL ax ns news) (k : ∀ p ∈ news, p ∈ news') : TL ax ns news' := by
  obtain ⟨vs, h1, h2⟩ := h
  exact ⟨vs, h1, k _ h2⟩
theorem TL.at_ (h : TL ax ns news) : IntsAt ax ns news := by
  obtain ⟨vs, h1, h2⟩ := h
  exact ⟨vs, h1, .inr h2⟩
theorem TL.notS {a : La} {b : Bw} {Lf : Addr} (N : News g Lf h news) (B : BwS W a b news) (H : TL ax ns news) : ax ∉ a.S := by
  obtain ⟨vs, _, h2⟩ := H
  intro hx
  rcases List.mem_cons.mp hx with rfl | hx
  · obtain ⟨o, kvs, d1, ⟨es, ep, _, d2, _⟩, _⟩ := B.dict
    rw [← news_eq N h2 d1] at d2
    cases d2
  obtain ⟨_, _, _, _, _, q1, q2, _⟩ := B.data
  rcases List.mem_cons.mp hx with rfl | hx
  · have := congrArg Obj.cls (news_eq N h2 q1)
    injection this with this
    exact absurd this (by decide)
  · rw [List.mem_singleton.mp hx] at h2
    have := congrArg Obj.cls (news_eq N h2 q2)
    injection this with this
    exact absurd this (by decide)
theorem sf_of {q : Addr} {l : Led} (h : ((signs ++ far) = signs ∨ (signs ++ far) = far) ∨ TL q (signs ++ far) l) : TL q (signs ++ far) l := by
  rcases h with (h | h) | h
  · exact absurd h (by decide)
  · exact absurd h (by decide)
  · exact h
theorem k_catP (P : Addr → Cs → Led → Prop) (hP : ∀ q vs ks l, IntsAre vs (asI ks) → (q, tupOf vs) ∈ l → P q ks l) (hp : P ax ns news) (kp : P bx ms news) (S : Wk W base c g sc n) (F : Fr g c.L h m) (N : News g c.L h news) (H : TI W ax ns news) (K : TI W bx ms news) (hsz : ns.length + ms.length ≤ 100000)
    (hq : ∀ q h' tk' news', Fr g c.L h' m → News g c.L h' news' → P q (ns ++ ms) news' → (∀ p ∈ news, p ∈ news') → (q = ax ∨ q = bx ∨ ∀ p ∈ news, p.1 ≠ q) → Q (.ref q) (st s h' tk')) :
    wpAny W.M c.A (binaryOp .Add (.ref ax) (.ref bx)) Q E (st s h tk') := by
  obtain ⟨l1, k1, a1, a2⟩ := H.at_ S F N
  obtain ⟨l2, k2, b1, b2⟩ := K.at_ S F N
  have e1 : l1.length = ns.length := by rw [a2.length, List.length_map]
  have e2 : l2.length = ms.length := by rw [b2.length, List.length_map]
  by_cases h1 : ns = []
  · subst h1
    have z1 : l1 = [] := List.eq_nil_of_length_eq_zero e1
    subst z1
    refine concat_meets (s := st s h tk') ⟨_, a1, rfl⟩ ⟨_, b1, rfl⟩ noFill_tuple_add seq_tuple_add PySem.F.slot_tuple_add PySem.F.entry_tuple_add (PySem.F.args_tuple_add_2 _ _) (PySem.AutoSeq1.tuple___add___tuple_tuple_0 ax _ k1 bx _ k2 rfl) ⟨a1, b1, ?_⟩
    exact hq bx h tk' news F N (by simpa using kp) (fun _ hp => hp) (.inr (.inl rfl))
  · have n1 : ¬ l1.toArray.isEmpty = true := by
      intro q
      apply h1
      have : l1 = [] := by simpa using q
      rw [this] at e1
      exact List.eq_nil_of_length_eq_zero e1.symm
    by_cases h2 : ms = []
    · subst h2
      have z1 : l2 = [] := List.eq_nil_of_length_eq_zero e2
      subst z1
      refine concat_meets (s := st s h tk') ⟨_, a1, rfl⟩ ⟨_, b1, rfl⟩ noFill_tuple_add seq_tuple_add PySem.F.slot_tuple_add PySem.F.entry_tuple_add (PySem.F.args_tuple_add_2 _ _) (PySem.AutoSeq1.tuple___add___tuple_tuple_1 ax _ k1 bx _ k2 n1 rfl) ⟨a1, b1, ?_⟩
      exact hq ax h tk' news F N (by simpa using hp) (fun _ hp => hp) (.inl rfl)
    · have n2 : ¬ l2.toArray.isEmpty = true := by
        intro q
        apply h2
        have : l2 = [] := by simpa using q
        rw [this] at e2
        exact List.eq_nil_of_length_eq_zero e2.symm
      refine PySem.P.add_tuple (s := st s h tk') a1 b1 n1 n2 ?_ (by simp only [List.size_toArray]; rw [sizeLine_eq]; lia)
      have N' := N.push F (tupOf (l1 ++ l2))
      have F' := F.push (tupOf (l1 ++ l2))
      have fr : ∀ p ∈ news, p.1 ≠ h.objs.size := fun p hp => Nat.ne_of_lt (Heap.lt_size (N p hp).1)
      have := hq h.objs.size (h.push (tupOf (l1 ++ l2))) tk' _ F' N' (hP _ (l1 ++ l2) _ _ (by unfold asI; rw [List.map_append]; exact a2.append b2) (.head _)) (fun _ hp => .tail _ hp) (.inr (.inr fr))
      simpa [tupOf] using this
theorem k_fromP (P : Addr → Cs → Led → Prop) (hP : ∀ q vs ks l, IntsAre vs (asI ks) → (q, tupOf vs) ∈ l → P q ks l) {value slice : Expr} {i : Nat} (S : Wk W base c g sc n) (F : Fr g c.L h m) (N : News g c.L h news) (hp : P ax ns news) (H : TI W ax ns news) (hi : i ≤ ns.length) (hsz : ns.length ≤ 100000)
    (hs : subscripted slice false (.ref ax) (.ref h.objs.size) = operate [.ref h.objs.size, .ref ax] (getItem (.ref ax) (.ref h.objs.size)))
    (hg : ∀ r, letTemporaryGo value (.ref ax) r = pure ())
    (hq : ∀ q h' tk' news', Fr g c.L h' m → News g c.L h' news' → P q (ns.drop i) news' → (∀ p ∈ news, p ∈ news') → (q = ax ∨ ∀ p ∈ news, p.1 ≠ q) → Q (.ref q) (st s h' tk')) :
    wpAny W.M c.A (subscriptTail value slice (.ref ax) (.ref h.objs.size)) Q E (st s (h.push (sliceOb (.int (i : Nat) u) .none)) tk') := by
  obtain ⟨l, j, h1, h2⟩ := H.at_ S F N
  have e1 : l.length = ns.length := by rw [h2.length, List.length_map]
  by_cases h0 : i = 0
  · subst h0
    have hT : IsTup (h.push (sliceOb (.int ((0 : Nat) : Int) u) .none)) ax l.toArray := (isT_tup h1).push _
    refine subscriptTail_ops (s := st s (h.push (sliceOb (.int ((0 : Nat) : Int) u) .none)) tk') (IsTup.typeIs (s := st s (h.push (sliceOb (.int ((0 : Nat) : Int) u) .none)) tk') hT) slot_tuple_getitem.lookup (gi_whole hT (Heap.IsSliceOf.new ..) ?_) hs hg
    have N' : News g c.L (h.push (sliceOb (.int ((0 : Nat) : Int) u) .none)) news := fun p hp => ⟨Heap.get?_push_of_some _ (N p hp).1, (N p hp).2⟩
    exact hq ax _ _ news (F.push _) N' (by simpa using hp) (fun _ hp => hp) (.inl rfl)
  · refine slice_tuple_from (s := st s h tk') F N (isT_tup h1) (Nat.pos_of_ne_zero h0) (by rw [List.size_toArray, e1]; exact hi) (fun h' F' N' => ?_) hs hg (by rw [List.size_toArray, e1, sizeLine_eq]; lia)
    have fr : ∀ p ∈ news, p.1 ≠ h.objs.size + 1 := fun p hp => Nat.ne_of_lt (Nat.lt_succ_of_lt (Heap.lt_size (N p hp).1))
    exact hq (h.objs.size + 1) h' _ _ F' N' (hP _ _ _ _ (asI_drop h2 i) (.head _)) (fun _ hp => .tail _ hp) (.inr fr)
theorem k_uptoP (P : Addr → Cs → Led → Prop) (hP : ∀ q vs ks l, IntsAre vs (asI ks) → (q, tupOf vs) ∈ l → P q ks l) {value slice : Expr} {i : Nat} (S : Wk W base c g sc n) (F : Fr g c.L h m) (N : News g c.L h news) (H : TI W ax ns news) (hi : i < ns.length) (hsz : ns.length ≤ 100000)
    (hs : subscripted slice false (.ref ax) (.ref h.objs.size) = operate [.ref h.objs.size, .ref ax] (getItem (.ref ax) (.ref h.objs.size)))
    (hg : ∀ r, letTemporaryGo value (.ref ax) r = pure ())
    (hq : ∀ q h' tk' news', Fr g c.L h' m → News g c.L h' news' → P q (ns.take i) news' → (∀ p ∈ news, p ∈ news') → (∀ p ∈ news, p.1 ≠ q) → Q (.ref q) (st s h' tk')) :
    wpAny W.M c.A (subscriptTail value slice (.ref ax) (.ref h.objs.size)) Q E (st s (h.push (sliceOb .none (.int (i : Nat) u))) tk') := by
  obtain ⟨l, j, h1, h2⟩ := H.at_ S F N
  have e1 : l.length = ns.length := by rw [h2.length, List.length_map]
  have hT : IsTup (h.push (sliceOb .none (.int (i : Nat) u))) ax l.toArray := (isT_tup h1).push _
  have N' : News g c.L (h.push (sliceOb .none (.int (i : Nat) u))) news := fun p hp => ⟨Heap.get?_push_of_some _ (N p hp).1, (N p hp).2⟩
  have F' : Fr g c.L (h.push (sliceOb .none (.int (i : Nat) u))) m := F.push _
  refine subscriptTail_ops (s := st s (h.push (sliceOb .none (.int (i : Nat) u))) tk') (IsTup.typeIs (s := st s (h.push (sliceOb .none (.int (i : Nat) u))) tk') hT) slot_tuple_getitem.lookup (gi_upto hT (Heap.IsSliceOf.new ..) (by rw [List.size_toArray, e1]; exact hi) ?_ (by rw [List.size_toArray, e1, sizeLine_eq]; lia)) hs hg
  have N2 := N'.push F' (tupOf (l.take i))
  have F2 := F'.push (tupOf (l.take i))
  have fr : ∀ p ∈ news, p.1 ≠ (h.push (sliceOb .none (.int (i : Nat) u))).objs.size := fun p hp => Nat.ne_of_lt (Heap.lt_size (N' p hp).1)
  exact hq _ _ _ _ F2 N2 (hP _ _ _ _ (asI_take h2 i) (.head _)) (fun _ hp => .tail _ hp) fr
end
section
variable {W : Wd} {base g h : Heap} {c : Cx} {sc : Scope} {n : Nat} {m : Str → Option Value} {news : Led} {s : Shared} {tk : Nat} {E : Value → Shared → Prop} {Q : Value → Shared → Prop} {u : Tok} {ax : Addr}
theorem z_itemI {value slice : Expr} {vs : List Value} {kk : Nat} {nums : Cs} {k : Nat} (N : News g c.L h news) (H : (ax, listOf vs.toArray kk) ∈ news) (hi : IntsAre vs (asI nums)) (hk : nums[0]? = some k)
    (hq : ∀ t, Q (.int (k : Nat) t) (st s h tk)) (hs : subscripted slice false (.ref ax) (.int ((0 : Nat) : Int) u) = operate [.ref ax, .int ((0 : Nat) : Int) u] (getItem (.ref ax) (.int ((0 : Nat) : Int) u)))
    (hg : ∀ r, letTemporaryGo value (.ref ax) r = pure ()) : wpAny W.M c.A (subscriptTail value slice (.ref ax) (.int ((0 : Nat) : Int) u)) Q E (st s h tk) := by
  obtain ⟨t, ht⟩ := int_get hi hk
  exact kim_list (s := st s h tk) N H rfl rfl (by decide) (by decide) ht (hq t) hs hg
end
section
variable {W : Wd} {A : Ad} {a : La} {b : Bw} {base g h : Heap} {c : Cx} {m : Str → Option Value} {news : Led} {s : Shared} {tk : Nat}
theorem law_go {ax : Addr} {vs : List Value} {kk n0 : Nat} {nums : Cs} (S : Wk W base c g (dScope (defAt 61)) 12) (KF : Kf W A) (F : Fr g c.L h m) (N : News g c.L h news) (B : BwS W a w0 news) (hm_w : m ("w" : Str) = some (.ref a.d)) (hm_nums : m ("nums" : Str) = some (.ref ax))
    (hin : (ax, listOf vs.toArray kk) ∈ news) (hi : IntsAre vs (asI nums)) (hax : ax ∉ a.S) (hl : nums.length ≤ 40) (hv : ∀ v ∈ nums, v < 2 ^ 40) (h0 : nums[0]? = some n0) :
    wpAny W.M c.A (execs ((dBody (defAt 61)).drop 4) c.env) (Done c g s (fun r _ => r = .bool true)) NoE (st s h tk) := by
  have kl_script : Lc (dScope (defAt 61)) "script" := ⟨by kernel_rfl, by kernel_rfl⟩
  have kl_nums : Lc (dScope (defAt 61)) "nums" := ⟨by kernel_rfl, by kernel_rfl⟩
  have kl_w : Lc (dScope (defAt 61)) "w" := ⟨by kernel_rfl, by kernel_rfl⟩
  have kl_turn : Lc (dScope (defAt 61)) "turn" := ⟨by kernel_rfl, by kernel_rfl⟩
  have kl_v : Lc (dScope (defAt 61)) "v" := ⟨by kernel_rfl, by kernel_rfl⟩
  have kl_diags : Lc (dScope (defAt 61)) "diags" := ⟨by kernel_rfl, by kernel_rfl⟩
  have kg_law_name : Gb (dScope (defAt 61)) "_law_name" := ⟨by kernel_rfl, by kernel_rfl⟩
  have kk_law_name := KF.d_lawName.keep
  have gg_law_name := KF.g_lawName
  have kg_law_strange : Gb (dScope (defAt 61)) "_law_strange" := ⟨by kernel_rfl, by kernel_rfl⟩
  have kk_law_strange := KF.d_lawStrange.keep
  have gg_law_strange := KF.g_lawStrange
  have kg_law_end : Gb (dScope (defAt 61)) "_law_end" := ⟨by kernel_rfl, by kernel_rfl⟩
  have kk_law_end := KF.d_lawEnd.keep
  have gg_law_end := KF.g_lawEnd
  have kg_Diags : Gb (dScope (defAt 61)) "Diags" := ⟨by kernel_rfl, by kernel_rfl⟩
  have kk_Diags := KF.mkDiags.2
  have gg_Diags := KF.g_Diags
  have kg_law_piece : Gb (dScope (defAt 61)) "_law_piece" := ⟨by kernel_rfl, by kernel_rfl⟩
  have kk_law_piece := KF.d_lawPiece.keep
  have gg_law_piece := KF.g_lawPiece
  have kg_TK_END : Gb (dScope (defAt 61)) "TK_END" := ⟨by kernel_rfl, by kernel_rfl⟩
  obtain ⟨ti_TK_END, gg_TK_END⟩ := KF.i_TK_END
  have kg_len : Gb (dScope (defAt 61)) "len" := ⟨by kernel_rfl, by kernel_rfl⟩
  have kg_lex : Gb (dScope (defAt 61)) "lex" := ⟨by kernel_rfl, by kernel_rfl⟩
  have kk_lex := KF.d_lex.keep
  have gg_lex := KF.g_lex
  have kg_law_SIGNS : Gb (dScope (defAt 61)) "_law_SIGNS" := ⟨by kernel_rfl, by kernel_rfl⟩
  have gg_law_SIGNS := KF.t_lawSigns.1
  have kg_law_FAR : Gb (dScope (defAt 61)) "_law_FAR" := ⟨by kernel_rfl, by kernel_rfl⟩
  have gg_law_FAR := KF.t_lawFar.1
  have kg_law_LETTERS : Gb (dScope (defAt 61)) "_law_LETTERS" := ⟨by kernel_rfl, by kernel_rfl⟩
  have gg_law_LETTERS := KF.t_lawLetters.1
  show wpAny _ _ (execs (_ :: _) _) _ _ _
  have l46 : n0 % 46 < letters.length := Nat.lt_of_lt_of_le (Nat.mod_lt n0 (by decide)) (by decide)
  with_reducible
   refine x_assign ?_ (by k_dflt exact rfl)
   refine PySem.wpAny_BinOp ?_
   refine PyProof.Rows.Subscript_ ?_
   refine z_local ‹_› ‹_› ‹_› (by tb_start) ?_
   refine d_num ?_
  with_reducible refine z_itemI N hin hi h0 (fun t => ?_) ?_ ?_
  rotate_left
  · with_unfolding_all rfl
  · intro _; with_unfolding_all rfl
  with_reducible
   refine d_num ?_
   refine d_mod (by decide) ?_
   refine z_store ‹_› ‹_› ‹_› ‹_› ?_; intro _ _ _ _
   refine z_expr ‹_› ?_ (by k_dflt exact rfl)
   refine e_callNE ‹_› ‹_› ‹_› ‹_› ‹_› ‹_› (by tb_start) ?_ (by k_dflt exact rfl)
   refine PyProof.Rows.MethodCall_ ?_ (by k_dflt exact rfl)
   refine d_str ?_
   refine GM.join ?_
   refine PyProof.Rows.callWith_method1 ?_ (by k_dflt exact rfl) (by k_dflt exact rfl)
   refine z_args ?_ (by k_dflt exact rfl)
  rename_i h₁ tk₁ F₁ N₁
  with_reducible refine comp_tup (cl := []) (fun k y => ∃ q t, k = ((q : Nat) : Int) ∧ y = .str (strS [q]) t) S F₁ (by k_dflt exact rfl) (by k_dflt exact of_decide_eq_true (by kernel_rfl)) (by k_dflt exact rfl) (by k_dflt exact of_decide_eq_true (by kernel_rfl)) (by k_dflt exact rfl) ?_ ?_
  · intro _; with_unfolding_all rfl
  with_reducible
   refine PySem.wpAny_BinOp ?_
   refine PyProof.Rows.Subscript_ ?_
   refine z_global ‹_› ‹_› ‹_› ‹_› ?_
   refine z_slice ?_
   refine evalPart_some_step ?_
   refine z_local ‹_› ‹_› ‹_› (by tb_start) ?_
   refine evalPart_none_step ?_
   refine Exists.intro _ (Exists.intro _ (And.intro rfl ?_))
  with_reducible refine k_from S F₁ N₁ (TI.k KF.t_lawLetters.2) (Nat.le_of_lt l46) (by decide) ?_ ?_ fun q h₂ tk₂ l₂ F₂ N₂ T₂ sub₂ or₂ => ?_
  · with_unfolding_all rfl
  · intro _; with_unfolding_all rfl
  with_reducible
   refine PyProof.Rows.Subscript_ ?_
   refine z_global ‹_› ‹_› ‹_› ‹_› ?_
   refine z_slice ?_
   refine evalPart_none_step ?_
   refine evalPart_some_step ?_
   refine z_local ‹_› ‹_› ‹_› (by tb_start) ?_
   refine Exists.intro _ (Exists.intro _ (And.intro rfl ?_))
  with_reducible refine k_upto S F₂ N₂ (TI.k KF.t_lawLetters.2) l46 (by decide) ?_ ?_ fun q' h₃ tk₃ l₃ F₃ N₃ T₃ sub₃ ne₃ => ?_
  · with_unfolding_all rfl
  · intro _; with_unfolding_all rfl
  have lt46 : (letters.drop (n0 % 46)).length + (letters.take (n0 % 46)).length ≤ 100000 := by
    rw [← List.length_append, turn_len]; decide
  with_reducible refine k_cat S F₃ N₃ (T₂.sub sub₃) T₃ lt46 ?_
  intro qc h₄ tk₄ l₄ F₄ N₄ T₄ sub₄ _
  have rlen : (letters.drop (n0 % 46) ++ letters.take (n0 % 46)).length = 46 := by rw [turn_len]; decide
  have rcod := codes_letters.turn (n0 % 46)
  refine ⟨qc, _, h₄, tk₄, l₄, rfl, rfl, F₄, N₄, T₄, by rw [rlen]; decide, fun sx => turn_chr S KF rcod (by k_dflt exact rfl) (by k_dflt exact rfl) (by k_dflt exact rfl) (by decide), fun D ys h₅ tk₅ hR F₅ N₅ ne₅ => ?_⟩
  have B₅ : BwS W a w0 ((D, LCg.lst ys) :: l₄) := B.keep fun p hp => .tail _ (sub₄ _ (sub₃ _ (sub₂ _ hp)))
  have K₅ : Kp a.S news ((D, LCg.lst ys) :: l₄) := Kp.of fun p hp => .tail _ (sub₄ _ (sub₃ _ (sub₂ _ hp)))
  have G₅ : GL D (letters.drop (n0 % 46) ++ letters.take (n0 % 46)) ys.length ((D, LCg.lst ys) :: l₄) := ⟨ys, ys.length, .head _, hR.strs, Nat.le_refl _⟩
  have hyl : ys.length ≤ 100000 := by
    have : ∀ {R : Int → Value → Prop} {ys : List Value} {ks : List Int}, AllR R ys ks → ys.length = ks.length := by
      intro R ys ks h
      induction h with
      | nil => rfl
      | cons _ _ ih => rw [List.length_cons, List.length_cons, ih]
    rw [this hR, List.length_map, rlen]; decide
  clear T₂ T₃ T₄ N₂ N₃ N₄ F₂ F₃ F₄ N₁ F₁ N F B sub₂ sub₃ sub₄ or₂ ne₃
  generalize hrun : letters.drop (n0 % 46) ++ letters.take (n0 % 46) = run at *
  with_reducible
   refine z_args0 ?_
   refine call_app1 ?_
   refine z_join ‹_› ‹_› (by first | with_reducible assumption | lia) ?_; intro _ _
   refine And.intro (Exists.intro _ ‹_›) ?_
  obtain ⟨e, he⟩ : ∃ e, run[0]? = some e := by
    cases run with
    | nil => cases rlen
    | cons e _ => exact ⟨e, rfl⟩
  with_reducible refine u_lawName S F₅ N₅ KF B₅ he ?_ ?_ ?_ (by decide) fun h₆ tk₆ l₆ F₆ N₆ B₆ K₆ => ?_
  · rw [rlen]; decide
  · rw [rlen]; decide
  · rw [rlen]; decide
  have hin₆ := (K₅.trans K₆) _ hin hax
  have BB : BwS W a (wName w0 run) l₆ ∧ True := ⟨B₆, trivial⟩
  clear B₅ F₅ N₅ K₅ K₆ G₅ hR hin ne₅ B₆
  with_reducible
   refine x_assign ?_ (by k_dflt exact rfl)
   refine PySem.wpAny_BinOp ?_
   refine PyProof.Rows.Subscript_ ?_
   refine z_local ‹_› ‹_› ‹_› (by tb_start) ?_
   refine d_num ?_
  with_reducible refine z_itemI N₆ hin₆ hi h0 (fun t => ?_) ?_ ?_
  rotate_left
  · with_unfolding_all rfl
  · intro _; with_unfolding_all rfl
  have l37 : n0 % 37 < (signs ++ far).length := Nat.lt_of_lt_of_le (Nat.mod_lt n0 (by decide)) (by decide)
  with_reducible
   refine d_num ?_
   refine d_mod (by decide) ?_
   refine z_store ‹_› ‹_› ‹_› ‹_› ?_; intro _ _ _ _
   refine z_expr ‹_› ?_ (by k_dflt exact rfl)
   refine e_callNE ‹_› ‹_› ‹_› ‹_› ‹_› ‹_› (by tb_start) ?_ (by k_dflt exact rfl)
   refine PySem.wpAny_BinOp ?_
   refine PyProof.Rows.Subscript_ ?_
   refine PySem.wpAny_BinOp ?_
   refine z_global ‹_› ‹_› ‹_› ‹_› ?_
   refine z_global ‹_› ‹_› ‹_› ‹_› ?_
  rename_i h₇ tk₇ F₇ N₇
  with_reducible refine k_catP (fun q ks l => (ks = signs ∨ ks = far) ∨ TL q ks l) (fun q vs ks l h k => .inr (TL.mk' q vs ks l h k)) (.inl (.inl rfl)) (.inl (.inr rfl)) S F₇ N₇ (TI.k KF.t_lawSigns.2) (TI.k KF.t_lawFar.2) (by decide) fun q₈ h₈ tk₈ l₈ F₈ N₈ P₈ sub₈ _ => ?_
  have T₈ := sf_of P₈
  clear N₆ F₆ N₇ F₇ P₈
  with_reducible
   refine z_slice ?_
   refine evalPart_some_step ?_
   refine z_local ‹_› ‹_› ‹_› (by tb_start) ?_
   refine evalPart_none_step ?_
   refine Exists.intro _ (Exists.intro _ (And.intro rfl ?_))
   refine kba_turn (value' := Expr.Name (Str.ofString "_") ⟨0, 0, 0, 0⟩) (by intro _; with_unfolding_all rfl) ?_
  with_reducible refine k_fromP TL TL.mk' S F₈ N₈ T₈ T₈.ti (Nat.le_of_lt l37) (by decide) ?_ ?_ fun q₉ h₉ tk₉ l₉ F₉ N₉ T₉ sub₉ _ => ?_
  · with_unfolding_all rfl
  · intro _; with_unfolding_all rfl
  clear N₈ F₈ T₈
  with_reducible
   refine PyProof.Rows.Subscript_ ?_
   refine PySem.wpAny_BinOp ?_
   refine z_global ‹_› ‹_› ‹_› ‹_› ?_
   refine z_global ‹_› ‹_› ‹_› ‹_› ?_
  with_reducible refine k_catP (fun q ks l => (ks = signs ∨ ks = far) ∨ TL q ks l) (fun q vs ks l h k => .inr (TL.mk' q vs ks l h k)) (.inl (.inl rfl)) (.inl (.inr rfl)) S F₉ N₉ (TI.k KF.t_lawSigns.2) (TI.k KF.t_lawFar.2) (by decide) fun qa ha tka la Fa Na Pa suba _ => ?_
  have Ta := sf_of Pa
  have T₉' := T₉.sub suba
  clear N₉ F₉ T₉ Pa
  with_reducible
   refine z_slice ?_
   refine evalPart_none_step ?_
   refine evalPart_some_step ?_
   refine z_local ‹_› ‹_› ‹_› (by tb_start) ?_
   refine Exists.intro _ (Exists.intro _ (And.intro rfl ?_))
   refine kba_turn (value' := Expr.Name (Str.ofString "_") ⟨0, 0, 0, 0⟩) (by intro _; with_unfolding_all rfl) ?_
  with_reducible refine k_uptoP TL TL.mk' S Fa Na Ta.ti l37 (by decide) ?_ ?_ fun qb hb tkb lb Fb Nb Tb subb _ => ?_
  · with_unfolding_all rfl
  · intro _; with_unfolding_all rfl
  have lt37 : ((signs ++ far).drop (n0 % 37)).length + ((signs ++ far).take (n0 % 37)).length ≤ 100000 := by
    rw [← List.length_append, turn_len]; decide
  have T₉b := T₉'.sub subb
  with_reducible refine k_catP TL TL.mk' T₉b Tb S Fb Nb T₉b.ti Tb.ti lt37 fun qc hc tkc lc Fc Nc Tc subc _ => ?_
  have sub : ∀ p ∈ l₆, p ∈ lc := fun p hp => subc _ (subb _ (suba _ (sub₉ _ (sub₈ _ hp))))
  have Bc := BB.1.keep sub
  have hinc := sub _ hin₆
  clear T₉' T₉b Tb Ta Nb Fb Na Fa BB sub₈ sub₉ suba subb subc sub hin₆
  with_reducible refine And.intro (Exists.intro _ ‹_›) ?_
  have bw0 : Bnd w0 0 := ⟨Nat.le_refl _, Nat.le_refl _, Nat.le_refl _, Nat.le_refl _, fun _ hx => nomatch hx⟩
  have bw := bw0.wName (k := 46) (Nat.le_of_eq rlen) rcod
  have clen : ((signs ++ far).drop (n0 % 37) ++ (signs ++ far).take (n0 % 37)).length = 37 := by rw [turn_len]; decide
  have scod : ∀ k ∈ (signs ++ far).drop (n0 % 37) ++ (signs ++ far).take (n0 % 37), k < 1114112 := codes_sf.turn (n0 % 37)
  have b1 := bw.1
  have b4 := bw.4
  with_reducible refine u_lawStrange S Fc Nc KF Bc Tc.at_ (Tc.notS Nc Bc) scod (Nat.le_trans bw.3 (by decide)) (Nat.le_trans bw.2 (by decide)) ?_ ?_ (by decide) fun hd tkd ld Fd Nd Bd Kd => ?_
  · rw [clen]; lia
  · rw [clen]; lia
  have hh : nums.headD 0 = n0 := by
    cases nums with
    | nil => cases h0
    | cons x l => exact Option.some.inj h0
  have hind := Kd _ hinc hax
  refine law_loop (ax := ax) (nums := nums) S KF Fd Nd ?_ (by tb_start) (by tb_start) ⟨vs, hi, .inl ⟨kk, hind⟩⟩ hax hl hv
  rw [hh]
  unfold wStart
  rw [hrun]
  exact Bd
end
end Mine
end
section
open PySem PySem.W PySem.Calls PySem.Spec PyProof.Rows
set_option Elab.async false
set_option maxRecDepth 100000
set_option maxHeartbeats 2000000
namespace Mine
section
variable {W : Wd} {A : Ad} {base g h : Heap} {c : Cx} {m : Str → Option Value} {news : Led} {s : Shared} {tk : Nat}
theorem law_w {ax : Addr} {vs : List Value} {kk n0 : Nat} {nums : Cs} (S : Wk W base c g (dScope (defAt 61)) 12) (KF : Kf W A) (F : Fr g c.L h m) (N : News g c.L h news) (hm_nums : m ("nums" : Str) = some (.ref ax))
    (hin : (ax, listOf vs.toArray kk) ∈ news) (hi : IntsAre vs (asI nums)) (hl : nums.length ≤ 40) (hv : ∀ v ∈ nums, v < 2 ^ 40) (h0 : nums[0]? = some n0) :
    wpAny W.M c.A (execs ((dBody (defAt 61)).drop 3) c.env) (Done c g s (fun r _ => r = .bool true)) NoE (st s h tk) := by
  have kl_script : Lc (dScope (defAt 61)) "script" := ⟨by kernel_rfl, by kernel_rfl⟩
  have kl_nums : Lc (dScope (defAt 61)) "nums" := ⟨by kernel_rfl, by kernel_rfl⟩
  have kl_w : Lc (dScope (defAt 61)) "w" := ⟨by kernel_rfl, by kernel_rfl⟩
  have kl_turn : Lc (dScope (defAt 61)) "turn" := ⟨by kernel_rfl, by kernel_rfl⟩
  have kl_v : Lc (dScope (defAt 61)) "v" := ⟨by kernel_rfl, by kernel_rfl⟩
  have kl_diags : Lc (dScope (defAt 61)) "diags" := ⟨by kernel_rfl, by kernel_rfl⟩
  have kg_law_name : Gb (dScope (defAt 61)) "_law_name" := ⟨by kernel_rfl, by kernel_rfl⟩
  have kk_law_name := KF.d_lawName.keep
  have gg_law_name := KF.g_lawName
  have kg_law_strange : Gb (dScope (defAt 61)) "_law_strange" := ⟨by kernel_rfl, by kernel_rfl⟩
  have kk_law_strange := KF.d_lawStrange.keep
  have gg_law_strange := KF.g_lawStrange
  have kg_law_end : Gb (dScope (defAt 61)) "_law_end" := ⟨by kernel_rfl, by kernel_rfl⟩
  have kk_law_end := KF.d_lawEnd.keep
  have gg_law_end := KF.g_lawEnd
  have kg_Diags : Gb (dScope (defAt 61)) "Diags" := ⟨by kernel_rfl, by kernel_rfl⟩
  have kk_Diags := KF.mkDiags.2
  have gg_Diags := KF.g_Diags
  have kg_law_piece : Gb (dScope (defAt 61)) "_law_piece" := ⟨by kernel_rfl, by kernel_rfl⟩
  have kk_law_piece := KF.d_lawPiece.keep
  have gg_law_piece := KF.g_lawPiece
  have kg_TK_END : Gb (dScope (defAt 61)) "TK_END" := ⟨by kernel_rfl, by kernel_rfl⟩
  obtain ⟨ti_TK_END, gg_TK_END⟩ := KF.i_TK_END
  have kg_len : Gb (dScope (defAt 61)) "len" := ⟨by kernel_rfl, by kernel_rfl⟩
  have kg_lex : Gb (dScope (defAt 61)) "lex" := ⟨by kernel_rfl, by kernel_rfl⟩
  have kk_lex := KF.d_lex.keep
  have gg_lex := KF.g_lex
  have kg_law_SIGNS : Gb (dScope (defAt 61)) "_law_SIGNS" := ⟨by kernel_rfl, by kernel_rfl⟩
  have gg_law_SIGNS := KF.t_lawSigns.1
  have kg_law_FAR : Gb (dScope (defAt 61)) "_law_FAR" := ⟨by kernel_rfl, by kernel_rfl⟩
  have gg_law_FAR := KF.t_lawFar.1
  have kg_law_LETTERS : Gb (dScope (defAt 61)) "_law_LETTERS" := ⟨by kernel_rfl, by kernel_rfl⟩
  have gg_law_LETTERS := KF.t_lawLetters.1
  show wpAny _ _ (execs (_ :: _) _) _ _ _
  with_reducible refine x_assign ?_ (by k_dflt exact rfl)
  with_reducible refine kdn_str (prog := W.prog) (w := W.w) (s := st s h tk) (by kernel_rfl) F N (Top.nolimit S.G.T) (by kernel_rfl) (by kernel_rfl) (List.cons_ne_nil _ _) (Nat.le_of_ble_eq_true (by kernel_rfl)) fun d h₁ o F₁ N₁ hlt hsys hd => ?_
  with_reducible refine pairTrees_cons_walk (z_str fun _ _ => z_str fun _ _ => ?_)
  with_reducible refine pairTrees_cons_walk (z_str fun _ _ => z_str fun _ _ => ?_)
  with_reducible refine pairTrees_cons_walk (z_str fun _ _ => z_num fun _ _ => ?_)
  with_reducible refine pairTrees_cons_walk (z_str fun _ _ => z_bool ?_)
  with_reducible refine pairTrees_cons_walk (z_str fun _ _ => z_bool ?_)
  with_reducible refine pairTrees_cons_walk (z_str fun _ _ => z_glue0 F₁ N₁ fun T h₂ tk₂ l₂ F₂ N₂ G₂ sub₂ ne₂ => ?_)
  with_reducible refine pairTrees_cons_walk (z_str fun _ _ => z_glue0 F₂ N₂ fun R h₃ tk₃ l₃ F₃ N₃ G₃ sub₃ ne₃ => ?_)
  with_reducible refine pairTrees_nil_walk ?_
  have hdm : (d, o) ∈ l₃ := sub₃ _ (sub₂ _ (.head _))
  obtain ⟨v₁, k₁, hT, ⟨ys₁, hy₁, _⟩, hz₁⟩ := G₂
  obtain ⟨v₂, k₂, hR, ⟨ys₂, hy₂, _⟩, hz₂⟩ := G₃
  have z₁ : v₁ = [] := List.eq_nil_of_length_eq_zero (Nat.le_zero.mp hz₁)
  have z₂ : v₂ = [] := List.eq_nil_of_length_eq_zero (Nat.le_zero.mp hz₂)
  subst z₁
  subst z₂
  have nTd : T ≠ d := Ne.symm (ne₂ (d, o) (.head _))
  have nRd : R ≠ d := Ne.symm (ne₃ _ (sub₂ _ (.head _)))
  have nTR : T ≠ R := ne₃ _ hT
  with_reducible refine kdn_made_str F₃ (news_front N₃ hdm) (UpdF.head fun p hp => of_decide_eq_true (List.mem_filter.mp hp).2) hd (by kernel_rfl) (of_decide_eq_true (by kernel_rfl)) fun h₄ o₄ F₄ N₄ hd₄ => ?_
  have old : ∀ {p : Addr × Obj} {l : Led}, p ∈ l → p.1 ≠ d → p ∈ ((d, o₄) :: l.filter fun p => decide (p.1 ≠ d)) := fun hp hn => .tail _ (List.mem_filter.mpr ⟨hp, decide_eq_true hn⟩)
  have B₄ : BwS W ⟨0, d, 0, 0, T, R⟩ w0 ((d, o₄) :: l₃.filter fun p => decide (p.1 ≠ d)) := by
    refine ⟨⟨o₄, _, .head _, hd₄, ?_⟩, ⟨[], [], k₁, k₂, [], old (sub₃ _ hT) nTd, old hR nRd, .nil, .nil, fun _ hx => nomatch hx⟩, nTR, Ne.symm nTd, Ne.symm nRd⟩
    constructor
    · exact Nat.le_of_ble_eq_true (by kernel_rfl)
    all_goals first | exact ⟨_, by rw [← lit_nil]; rfl⟩ | exact ⟨_, rfl⟩ | rfl
  have nax : ax ≠ d := Nat.ne_of_lt (hlt _ hin)
  have hin₄ := old (sub₃ _ (sub₂ _ (.tail _ hin))) nax
  have hax : ax ∉ (⟨0, d, 0, 0, T, R⟩ : La).S := by
    intro hx
    rcases List.mem_cons.mp hx with e | hx
    · exact nax e
    rcases List.mem_cons.mp hx with e | hx
    · exact ne₂ _ (.tail _ hin) e
    · exact ne₃ _ (sub₂ _ (.tail _ hin)) (List.mem_singleton.mp hx)
  clear F₁ N₁ F₂ N₂ F₃ N₃ hd₄
  with_reducible refine z_store ‹_› ‹_› ‹_› ‹_› ?_; intro _ _ _ _
  exact law_go (ax := ax) (nums := nums) S KF (by assumption) (by assumption) B₄ (by tb_start) (by tb_start) hin₄ hi hax hl hv h0
end
end Mine
end
section
open PySem PySem.W PySem.Calls PySem.Spec PyProof.Rows
set_option Elab.async false
set_option maxRecDepth 100000
set_option maxHeartbeats 2000000
namespace Mine
def remP (k : Int) : Nat := (k % 1000003).toNat
theorem remP_lt (k : Int) : remP k < 1000003 := by unfold remP; lia
def numsP (ns : List Int) : Cs := (ns.take 40).map remP
def dflt14 : Cs := [5, 10, 21, 10, 4, 7, 31, 9, 123, 14, 6, 0, 1213, 47]
section
variable {W : Wd} {base g h : Heap} {c : Cx} {sc : Scope} {n : Nat} {m : Str → Option Value} {news : Led} {s : Shared} {tk : Nat} {E : Value → Shared → Prop} {Q : Value → Shared → Prop} {u : Tok}
theorem z_cut40 {value slice : Expr} {l : Addr} {vs : List Value} {ns : List Int} (F : Fr g c.L h m) (N : News g c.L h news) (hl : g.IsList l vs.toArray) (hi : IntsAre vs ns) (hsz : ns.length ≤ 100000)
    (hs : subscripted slice false (.ref l) (.ref h.objs.size) = operate [.ref h.objs.size, .ref l] (getItem (.ref l) (.ref h.objs.size)))
    (ht : ∀ r, letTemporaryGo value (.ref l) r = pure ())
    (hq : ∀ D ws h', Fr g c.L h' m → News g c.L h' ((D, listOf (List.toArray ws) 0) :: news) → IntsAre ws (ns.take 40) → Q (.ref D) (st s h' tk)) :
    wpAny W.M c.A (subscriptTail value slice (.ref l) (.ref h.objs.size)) Q E (st s (h.push (sliceOb .none (.int ((40 : Nat) : Int) u))) tk) := by
  have hl' : h.IsList l vs.toArray := by
    obtain ⟨o, e, r⟩ := hl
    exact ⟨o, F.keep _ _ e, r⟩
  refine kmk_slice_ints (s := st s h tk) (hi := some ((40 : Nat) : Int)) F N hl' .none (.int _ _) hi (kmk_upto hi (by decide)) rfl (fun D ws h' F' N' _ hw _ _ => hq D ws h' F' N' hw) hs ht ?_
  rw [List.size_toArray, hi.length, sizeLine_eq]; lia
theorem z_eqNil {a b : Addr} {vs : List Value} {ka kb : Nat} {ns : Cs} (S : Wk W base c g sc n) (N : News g c.L h news) (ma : (a, listOf vs.toArray ka) ∈ news) (hi : IntsAre vs (asI ns)) (mb : (b, listOf ([] : List Value).toArray kb) ∈ news)
    (hq : Q (.bool (decide (ns = []))) (st s h tk)) : wpAny W.M c.A (compareOp .Eq (.ref a) (.ref b)) Q E (st s h tk) := by
  have hun : c.A.units + 64 < cLine := by have := S.room.un; show c.un + 64 < _; unfold cLine; lia
  have da : ∀ {vs : List Value} {ns : List Int}, IntsAre vs ns → DatAll [] vs (ns.map Dat.int) := by
    intro vs ns h
    induction h with
    | nil => exact .nil
    | cons k t _ ih => exact .cons (.int k t) ih
  refine kqd_eq (s := st s h tk) (n₁ := ([] : Led)) (n₂ := ([] : Led)) (ds := (asI ns).map Dat.int) (es := []) N ma rfl rfl (da hi) (fun _ hp => nomatch hp) mb rfl rfl .nil (fun _ hp => nomatch hp) ?_ (fun _ hp => nomatch hp) hun ?_
  · intro d hd
    obtain ⟨k, _, rfl⟩ := List.mem_map.mp hd
    rfl
  · refine Eq.mp (congrArg (fun b => Q (.bool b) (st s h tk)) (decide_eq_decide.mpr ?_)) hq
    unfold asI
    rw [List.map_eq_nil_iff, List.map_eq_nil_iff]
theorem turn_rem {ks : List Int} {x : Str} {pa pb pc : Pos} {kk : Nat} {sx : Shared} {scope : Scope} {cl : List (Str × Addr)} 
    (h1 : (relabel scope c.env).kind = .function) (h2 : (relabel scope c.env).names.lookup x = some .local) (h4 : (x == ("__debug__" : Str)) = false) :
    CTurn W c g m (.BinOp (.Name x pa) .Mod (.Constant (.int 1000003) kk pb) pc) x scope cl news sx (fun k y => ∃ t, y = .int ((remP k : Nat) : Int) t) ks := by
  intro k t C oC m₂ all h tk E' hm hC hx F N hCm _
  refine PySem.wpAny_BinOp (LCgL.ld_own (s := st sx h tk) N hCm hC hx ?_ h1 h2 h4)
  refine z_num fun t' tk' => PyProof.Rows.mod_int (by decide) ?_
  refine ⟨h, tk' + 1, rfl, F, N, tk', ?_⟩
  have e : k.fmod ((1000003 : Nat) : Int) = ((remP k : Nat) : Int) := by
    rw [Int.fmod_eq_emod_of_nonneg _ (by decide)]
    unfold remP
    lia
  rw [← e]
end
end Mine
end
section
open PySem PySem.W PySem.Calls PySem.Spec PyProof.Rows
set_option Elab.async false
set_option maxRecDepth 100000
set_option maxHeartbeats 2000000
namespace Mine
section
variable {W : Wd} {A : Ad} {base g h : Heap} {c : Cx} {m : Str → Option Value} {s : Shared} {tk : Nat}
theorem law_top {l : Addr} {vs : List Value} {ns : List Int} (S : Wk W base c g (dScope (defAt 61)) 12) (KF : Kf W A) (F : Fr g c.L h m) (N : News g c.L h []) (hm_script : m ("script" : Str) = some (.ref l))
    (hL : g.IsList l vs.toArray) (hi : IntsAre vs ns) (hl : ns.length ≤ 100000) :
    wpAny W.M c.A (execs (dBody (defAt 61)) c.env) (Done c g s (fun r _ => r = .bool true)) NoE (st s h tk) := by
  have kl_script : Lc (dScope (defAt 61)) "script" := ⟨by kernel_rfl, by kernel_rfl⟩
  have kl_nums : Lc (dScope (defAt 61)) "nums" := ⟨by kernel_rfl, by kernel_rfl⟩
  have kl_w : Lc (dScope (defAt 61)) "w" := ⟨by kernel_rfl, by kernel_rfl⟩
  have kl_turn : Lc (dScope (defAt 61)) "turn" := ⟨by kernel_rfl, by kernel_rfl⟩
  have kl_v : Lc (dScope (defAt 61)) "v" := ⟨by kernel_rfl, by kernel_rfl⟩
  have kl_diags : Lc (dScope (defAt 61)) "diags" := ⟨by kernel_rfl, by kernel_rfl⟩
  have kg_law_name : Gb (dScope (defAt 61)) "_law_name" := ⟨by kernel_rfl, by kernel_rfl⟩
  have kk_law_name := KF.d_lawName.keep
  have gg_law_name := KF.g_lawName
  have kg_law_strange : Gb (dScope (defAt 61)) "_law_strange" := ⟨by kernel_rfl, by kernel_rfl⟩
  have kk_law_strange := KF.d_lawStrange.keep
  have gg_law_strange := KF.g_lawStrange
  have kg_law_end : Gb (dScope (defAt 61)) "_law_end" := ⟨by kernel_rfl, by kernel_rfl⟩
  have kk_law_end := KF.d_lawEnd.keep
  have gg_law_end := KF.g_lawEnd
  have kg_Diags : Gb (dScope (defAt 61)) "Diags" := ⟨by kernel_rfl, by kernel_rfl⟩
  have kk_Diags := KF.mkDiags.2
  have gg_Diags := KF.g_Diags
  have kg_law_piece : Gb (dScope (defAt 61)) "_law_piece" := ⟨by kernel_rfl, by kernel_rfl⟩
  have kk_law_piece := KF.d_lawPiece.keep
  have gg_law_piece := KF.g_lawPiece
  have kg_TK_END : Gb (dScope (defAt 61)) "TK_END" := ⟨by kernel_rfl, by kernel_rfl⟩
  obtain ⟨ti_TK_END, gg_TK_END⟩ := KF.i_TK_END
  have kg_len : Gb (dScope (defAt 61)) "len" := ⟨by kernel_rfl, by kernel_rfl⟩
  have kg_lex : Gb (dScope (defAt 61)) "lex" := ⟨by kernel_rfl, by kernel_rfl⟩
  have kk_lex := KF.d_lex.keep
  have gg_lex := KF.g_lex
  have kg_law_SIGNS : Gb (dScope (defAt 61)) "_law_SIGNS" := ⟨by kernel_rfl, by kernel_rfl⟩
  have gg_law_SIGNS := KF.t_lawSigns.1
  have kg_law_FAR : Gb (dScope (defAt 61)) "_law_FAR" := ⟨by kernel_rfl, by kernel_rfl⟩
  have gg_law_FAR := KF.t_lawFar.1
  have kg_law_LETTERS : Gb (dScope (defAt 61)) "_law_LETTERS" := ⟨by kernel_rfl, by kernel_rfl⟩
  have gg_law_LETTERS := KF.t_lawLetters.1
  show wpAny _ _ (execs (_ :: _) _) _ _ _
  show wpAny _ _ (execs (_ :: _) _) _ _ _
  with_reducible
   refine x_assign ?_ (by k_dflt exact rfl)
   refine PyProof.Rows.Subscript_ ?_
   refine z_local ‹_› ‹_› ‹_› (by tb_start) ?_
   refine z_slice ?_
   refine evalPart_none_step ?_
   refine evalPart_some_step ?_
   refine d_num ?_
   refine Exists.intro _ (Exists.intro _ (And.intro rfl ?_))
  with_reducible refine z_cut40 (by assumption) (by assumption) hL hi hl (by with_unfolding_all rfl) (by intro _; with_unfolding_all rfl) fun D ws h₁ F₁ N₁ hw => ?_
  with_reducible refine z_store ‹_› ‹_› ‹_› ‹_› ?_; intro _ _ _ _
  rename_i h₂ tk₂ F₂ N₂
  have e40 : (ns.take 40).length ≤ 100000 := by rw [List.length_take]; lia
  with_reducible refine comp_listA (cl := []) (fun k y => ∃ t, y = .int ((remP k : Nat) : Int) t) S F₂ N₂ kl_script kl_nums upd_hit List.mem_cons_self hw e40 (by show swapsWith _ _ _ (envX c.cn c.cs c.L c.a c.ccd c.cl) = _; rw [S.cs]; kernel_rfl) (by k_dflt exact rfl) (by k_dflt exact of_decide_eq_true (by kernel_rfl)) (by k_dflt exact rfl) (by k_dflt exact of_decide_eq_true (by kernel_rfl)) (by k_dflt exact rfl) (fun sx => turn_rem (by k_dflt exact rfl) (by k_dflt exact rfl) (by k_dflt exact rfl)) fun D' ys h₃ tk₃ hR F₃ N₃ ne₃ => ?_
  have hj : IntsAre ys (asI (numsP ns)) := AllR.asInts hR
  have n40 : (numsP ns).length ≤ 40 := by unfold numsP; rw [List.length_map, List.length_take]; lia
  have nlt : ∀ v ∈ numsP ns, v < 2 ^ 40 := by
    intro v hv
    obtain ⟨k, _, rfl⟩ := List.mem_map.mp hv
    have := remP_lt k
    lia
  clear F₁ N₁ F₂ N₂ F N
  with_reducible
   refine x_if ?_
   refine t_cmp ?_
   refine z_local ‹_› ‹_› ‹_› (by tb_start) ?_
  with_reducible refine PyProof.Rows.List_ (args_nil ?_)
  with_reducible refine z_list (vs := []) F₃ N₃ (by decide) fun q h₄ tk₄ F₄ N₄ ne₄ => ?_
  with_reducible refine z_eqNil S N₄ (List.mem_cons_of_mem _ List.mem_cons_self) hj List.mem_cons_self ?_
  refine ⟨_, rfl, fun f => ?_, fun f => ?_⟩
  · with_reducible refine x_app ?_
    with_reducible refine x_assign ?_ (by k_dflt exact rfl)
    with_reducible refine PyProof.Rows.List_ ?_
    with_reducible
     refine z_args ?_ (by k_dflt exact rfl)
     refine d_num ?_
     refine z_args ?_ (by k_dflt exact rfl)
     refine d_num ?_
     refine z_args ?_ (by k_dflt exact rfl)
     refine d_num ?_
     refine z_args ?_ (by k_dflt exact rfl)
     refine d_num ?_
     refine z_args ?_ (by k_dflt exact rfl)
     refine d_num ?_
     refine z_args ?_ (by k_dflt exact rfl)
     refine d_num ?_
     refine z_args ?_ (by k_dflt exact rfl)
     refine d_num ?_
     refine z_args ?_ (by k_dflt exact rfl)
     refine d_num ?_
     refine z_args ?_ (by k_dflt exact rfl)
     refine d_num ?_
     refine z_args ?_ (by k_dflt exact rfl)
     refine d_num ?_
     refine z_args ?_ (by k_dflt exact rfl)
     refine d_num ?_
     refine z_args ?_ (by k_dflt exact rfl)
     refine d_num ?_
     refine z_args ?_ (by k_dflt exact rfl)
     refine d_num ?_
     refine z_args ?_ (by k_dflt exact rfl)
     refine d_num ?_
     refine z_args0 ?_
    with_reducible refine z_list F₄ N₄ (by k_dflt exact Nat.le_of_ble_eq_true rfl) fun q h₅ tk₅ F₅ N₅ ne₅ => ?_
    with_reducible refine z_store ‹_› ‹_› ‹_› ‹_› ?_; intro _ _ _ _
    with_reducible refine x_app0 ?_
    rename_i h₆ tk₆ F₆ N₆
    have d14 : dflt14[0]? = some 5 := rfl
    have l14 : dflt14.length ≤ 40 := by decide
    have v14 : ∀ v ∈ dflt14, v < 2 ^ 40 := by decide
    show wpAny _ _ (execs ((dBody (defAt 61)).drop 3) _) _ _ _
    with_reducible refine law_w (ax := q) (nums := dflt14) (n0 := 5) S KF F₆ N₆ upd_hit List.mem_cons_self ?_ l14 v14 d14
    exact .cons _ _ (.cons _ _ (.cons _ _ (.cons _ _ (.cons _ _ (.cons _ _ (.cons _ _ (.cons _ _ (.cons _ _ (.cons _ _ (.cons _ _ (.cons _ _ (.cons _ _ (.cons _ _ .nil)))))))))))))
  · with_reducible refine x_app0 ?_
    obtain ⟨n0, h0⟩ : ∃ n0, (numsP ns)[0]? = some n0 := by
      cases e : numsP ns with
      | nil => rw [e] at f; cases f
      | cons x r => exact ⟨x, rfl⟩
    show wpAny _ _ (execs ((dBody (defAt 61)).drop 3) _) _ _ _
    with_reducible exact law_w (nums := numsP ns) (n0 := n0) S KF F₄ N₄ upd_hit (List.mem_cons_of_mem _ List.mem_cons_self) hj n40 nlt h0
end
end Mine
end
section
open PySem PySem.W PySem.Calls PySem.Spec PyProof.Rows
set_option Elab.async false
set_option maxRecDepth 100000
set_option maxHeartbeats 2000000
namespace Mine
def lawCx (h : Heap) (fa : Addr) (cd : Value) : Cx := ⟨2 + claimMargin, 7, some [], "law", dScope (defAt 61), h.objs.size, fa, cd, [], []⟩
theorem law_called {w : World} {p : Program} {loose : List Str} {mean : ExcName → Option Value} {mg mb : Str → Option Value} {K : Frag} {A : Ad} {cl : Str → Option Addr} {mean' : ExcName → Option Value} {args : List WData}
    (KF : Kf ⟨PySem.Challenge.rw_xm0311_01.row.prog, w, K, p, loose, mean, mg, mb⟩ A) {s₁ : Shared} {fa : Addr} {cd : Value} {h₁ : Heap} {tk : Nat} {l : Addr} {vs : List Value} {ns : List Int} {m : Str → Option Value} {E : Value → Shared → Prop}
    (X : K.In s₁.heap) (T : Top p loose mean mg mb s₁.heap) (F : Fr s₁.heap s₁.heap.objs.size h₁ m) (N : News s₁.heap s₁.heap.objs.size h₁ []) (hm : m ("script" : Str) = some (.ref l)) (hL : s₁.heap.IsList l vs.toArray) (hi : IntsAre vs ns)
    (hn : ¬ (63 : Int) < (ns.length : Int)) (hg : s₁.gens = #[]) :
    wpAny (model PySem.Challenge.rw_xm0311_01.row.prog w) (lawCx s₁.heap fa cd).A (execs (dBody (defAt 61)) (lawCx s₁.heap fa cd).env)
      (fun f s' => GoodW PySem.Challenge.rw_xm0311_01.row.claim cl mean' args s₁ (.ok (.ret (match f with | .ret v => v | _ => .none))) s') E (st s₁ h₁ tk) := by
  have S : Wk ⟨PySem.Challenge.rw_xm0311_01.row.prog, w, K, p, loose, mean, mg, mb⟩ s₁.heap (lawCx s₁.heap fa cd) s₁.heap (dScope (defAt 61)) 12 := by
    refine ⟨⟨⟨callerA, below_caller _⟩, X, T⟩, rfl, by kernel_rfl, ?_⟩
    constructor
    · show 2 + claimMargin + 12 < 700
      decide
    · show 7 + 100 * 12 < 9000
      decide
  refine wpAny_mono (law_top (c := lawCx s₁.heap fa cd) (s := s₁) (tk := tk) S KF F N hm hL hi (by lia)) (fun fl s' hd => ?_) fun _ _ hh => hh.elim
  obtain ⟨h', tk', m', l', rfl, F', N', hr⟩ := hd
  have e : (match fl with | .ret v => v | _ => Value.none) = .bool true := hr
  rw [e]
  refine ⟨.inl ⟨.bool true, .bool true, [], rfl, fun cls => ?_, .bool true, ?_, fun _ => ⟨.nil, fun _ ha => nomatch ha⟩⟩, F'.keep, rfl, hg⟩
  · kernel_rfl
  · kernel_rfl
end Mine
end
section
open PySem PySem.W PyProof.Rows PySem.Calls
set_option Elab.async false
namespace Mine
def theAd : Ad := ⟨123,130,137,144,151,158,165,172,179,186,193,200,207,214,221,228,235,256,263,270,277,336,343,350,357,364,371,378,383,388,81,88,95,102,109,298,305,112,322,54,59,60,63,64,67,327,328,329⟩
theorem cls_of {K : Frag} {C : Addr} {flds : List Str} (h1 : findIn K (.ref C) "__getattribute__" = some (some (.builtin "object.__getattribute__"))) (h2 : findIn K (.ref C) "__getattr__" = some none) (h3 : hasDictIn K C = true)
    (h4 : findIn K (.ref C) "__setattr__" = some (some (.builtin "object.__setattr__"))) (h5 : plainOver K C = true) (h6 : ∀ x ∈ flds, findIn K (.ref C) x = some none) (h7 : ∀ x ∈ flds, takerIn K C x = some none) : ClsF K C flds := ⟨h1, h2, h3, h4, h5, h6, h7⟩
theorem all4 {p : Str → Prop} {a b c d : Str} (h1 : p a) (h2 : p b) (h3 : p c) (h4 : p d) : ∀ x ∈ [a, b, c, d], p x := by
  intro x hx
  simp only [List.mem_cons, List.not_mem_nil, or_false] at hx
  rcases hx with rfl | rfl | rfl | rfl
  · exact h1
  · exact h2
  · exact h3
  · exact h4
theorem all1 {p : Str → Prop} {a : Str} (h1 : p a) : ∀ x ∈ [a], p x := by
  intro x hx
  rw [List.mem_singleton.mp hx]; exact h1
theorem def_of {W : Wd} {f : Addr} {q : Str} {d : Stmt} {name : Str} {oc : Value} {od : Option Addr} {doc pm : Value} {an : Option Addr} {cdv ct : Value} {osl : Array (Option Value)}
    (h1 : W.K.lookup f = some ⟨oc, od, .func (fnOf name q (dArgs d) (dBody d) (dScope d) .none .none doc pm an cdv ct), osl⟩) (h2 : codeIn W.K cdv q = true) (h3 : keepIn W.K (.ref f) = true) : DefF W f q d :=
  ⟨⟨_, _, _, _, _, _, _, _, _, h1, h2⟩, h3⟩
set_option maxRecDepth 100000
set_option maxHeartbeats 0
theorem dic_of {W : Wd} {a : Addr} {keys : List Cs} {es : Array DictEntry} {n : Nat} (h1 : W.K.lookup a = some ⟨.type "dict", none, .dict es n, #[]⟩) (h2 : KeysLit W.w.params es.toList) (h3 : es.toList.map keyCs = keys.map some) (h4 : (a == sysModules) = false) : DicF W a keys := ⟨es, n, h1, h2, h3, h4⟩
theorem tup_of {W : Wd} {a : Addr} {ns : Cs} {l : List Value} {n : Nat} (h1 : W.K.lookup a = some ⟨.type "tuple", none, .seq l.toArray n, #[]⟩) (h2 : intsB l (ns.map fun (c : Nat) => (c : Int)) = true) : TupF W a ns := ⟨l, n, h1, intsAre_of h2⟩
end Mine
end
open PySem PySem.W PySem.Calls PySem.Spec PyProof.Rows
namespace Mine
def hd.tw17311223219408574766 : Unit := ()
def hd.tw17087091549796120035 : Unit := ()
def hd.tw6924109203229866365 : Unit := ()
def hd.tw13047593935725612058 : Unit := ()
def hd.tw15616948245753086127 : Unit := ()
def hd.tw2782273408667855022 : Unit := ()
def hd.tw7519716089354478335 : Unit := ()
def hd.tw978945382295711627 : Unit := ()
def hd.tw4065347644161347641 : Unit := ()
def hd.tw18185175575083235020 : Unit := ()
def hd.tw11128854368766332075 : Unit := ()
def hd.tw4377701919642642989 : Unit := ()
def hd.tw8068729725432388964 : Unit := ()
def hd.tw10216474801634566288 : Unit := ()
def hd.tw5148922909946612681 : Unit := ()
def hd.tw17711083657039698284 : Unit := ()
def hd.tw1452849714261714991 : Unit := ()
def hd.tw16302227732802510677 : Unit := ()
def hd.tw14620637471214046174 : Unit := ()
def hd.tw14176624398918483544 : Unit := ()
def hd.tw15043168886218598503 : Unit := ()
def hd.tw2867327485932766208 : Unit := ()
def hd.tw6990203504111849199 : Unit := ()
def hd.tw11652457597714270106 : Unit := ()
def hd.tw16649331688326792143 : Unit := ()
def hd.tw3818666328621016214 : Unit := ()
def hd.tw307737655149646647 : Unit := ()
def hd.tw3953601041324332601 : Unit := ()
def hd.tw11117797201346649052 : Unit := ()
def hd.tw6838551448383532254 : Unit := ()
def hd.tw461538923250603899 : Unit := ()
def hd.tw18241275227582772068 : Unit := ()
def hd.tw1847840615245081061 : Unit := ()
def hd.tw8047900516022102942 : Unit := ()
def hd.tw8671608845466749128 : Unit := ()
def hd.tw10960036856050940071 : Unit := ()
def hd.tw14896477498954680388 : Unit := ()
def hd.tw8343274005884668182 : Unit := ()
def hd.tw6998783941825042932 : Unit := ()
def hd.tw16772102934027710169 : Unit := ()
def hd.tw13330244855972007585 : Unit := ()
def hd.tw17599816209265215132 : Unit := ()
def hd.tw7752767780024739350 : Unit := ()
def hd.tw17650839729002327288 : Unit := ()
def hd.tw12092154237167983948 : Unit := ()
def hd.tw6528754448969337418 : Unit := ()
def hd.tw5373601922739893978 : Unit := ()
def hd.tw17447410573909459338 : Unit := ()
def hd.tw8770205317985620760 : Unit := ()
def hd.tw7540655947842036084 : Unit := ()
def hd.tw14353793391729792155 : Unit := ()
def hd.tw4014540891139286612 : Unit := ()
def hd.tw4763451143398169428 : Unit := ()
def hd.tw12588582704262371052 : Unit := ()
def hd.tw5282504435634884242 : Unit := ()
def hd.tw11953376511379268794 : Unit := ()
def hd.tw1382963296337349011 : Unit := ()
def hd.tw3182187488490625086 : Unit := ()
def hd.tw15368132723985388332 : Unit := ()
def hd.tw3917367725267117449 : Unit := ()
def hd.tw5363564295841288755 : Unit := ()
def hd.tw5562173858411828344 : Unit := ()
def hd.tw13919464512627920130 : Unit := ()
def hd.tw7891253978561527248 : Unit := ()
def hd.tw2167537188350426706 : Unit := ()
def hd.tw5278057926702712004 : Unit := ()
def hd.tw13903934854276604550 : Unit := ()
def hd.tw3915529967508079626 : Unit := ()
def hd.tw6545403380812914513 : Unit := ()
def hd.tw3480954088277226078 : Unit := ()
def hd.tw13609717118414637909 : Unit := ()
def hd.tw12173100003817136821 : Unit := ()
def hd.tw11631869004601391166 : Unit := ()
def hd.tw14400467628812073631 : Unit := ()
def hd.tw4478964076566166474 : Unit := ()
def hd.tw4115565904173853331 : Unit := ()
def hd.tw10111801491309104144 : Unit := ()
def hd.tw6982297934935202809 : Unit := ()
def hd.tw14294001040229213422 : Unit := ()
def hd.tw10525666975642140466 : Unit := ()
def hd.tw8071622481548722988 : Unit := ()
def hd.tw5987830557187376847 : Unit := ()
def hd.tw2195365466389143174 : Unit := ()
def hd.tw13225837485096350037 : Unit := ()
def hd.tw3759623122121258479 : Unit := ()
def hd.tw1865391376527767206 : Unit := ()
def hd.tw8117029840178788049 : Unit := ()
def hd.tw8545014587354053640 : Unit := ()
def hd.tw9421340871869096474 : Unit := ()
def hd.tw7610815399733428385 : Unit := ()
def hd.tw1882180444382439491 : Unit := ()
def hd.tw2352558718584008940 : Unit := ()
def hd.tw2886944701177904103 : Unit := ()
def hd.tw7914949630228597729 : Unit := ()
def hd.tw12050417470231563642 : Unit := ()
def hd.tw16056359734778111409 : Unit := ()
def hd.tw9277588360372424766 : Unit := ()
def hd.tw17047115858639842297 : Unit := ()
def hd.tw17420951861521290806 : Unit := ()
def hd.tw5978321128707920903 : Unit := ()
def hd.tw6060742912462422084 : Unit := ()
def hd.tw9783614193127449063 : Unit := ()
def hd.tw13483081372092288885 : Unit := ()
def hd.tw8977307856219701671 : Unit := ()
def hd.tw4706079058837389440 : Unit := ()
def hd.tw8727321023445011275 : Unit := ()
def hd.tw2274498078352570744 : Unit := ()
def hd.tw4993660671451451078 : Unit := ()
def hd.tw16005092535978360704 : Unit := ()
def hd.tw1129884963351977449 : Unit := ()
def hd.tw5716766192118558609 : Unit := ()
def hd.tw7085514621470718492 : Unit := ()
def hd.tw6830512106363814048 : Unit := ()
def hd.tw13855946660403688772 : Unit := ()
def hd.tw10258999931320997221 : Unit := ()
def hd.tw15166520500009309586 : Unit := ()
def hd.tw16412773359747925120 : Unit := ()
def hd.tw16794629799341752650 : Unit := ()
def hd.tw17673860158736603733 : Unit := ()
def hd.tw9557236495431379559 : Unit := ()
def hd.tw4172343393113369950 : Unit := ()
def hd.tw16945582573551092051 : Unit := ()
def hd.tw4015398097383911347 : Unit := ()
def hd.tw3828038474966422129 : Unit := ()
def hd.tw9430268157657104642 : Unit := ()
def hd.tw8004679753235328684 : Unit := ()
def hd.tw16853341256802265648 : Unit := ()
def hd.tw13217225542625558698 : Unit := ()
def hd.tw9386895884608548742 : Unit := ()
def hd.tw15527848837575444561 : Unit := ()
def hd.tw3381375190539634487 : Unit := ()
def hd.tw17986969038992634876 : Unit := ()
def hd.tw13828106393651249627 : Unit := ()
def hd.tw17588044629489971554 : Unit := ()
def hd.tw14294344414604881677 : Unit := ()
def hd.tw10727248033764811480 : Unit := ()
def hd.tw14091984216438838776 : Unit := ()
def hd.tw4851647983119433812 : Unit := ()
def hd.tw16473244170626142550 : Unit := ()
def hd.tw14960593345356199642 : Unit := ()
def hd.tw10743916045514856203 : Unit := ()
def hd.tw10784824025267889561 : Unit := ()
def hd.tw14705683404202351889 : Unit := ()
def hd.tw15508949281206285077 : Unit := ()
def hd.tw4272726840584523970 : Unit := ()
def hd.tw3513179230801503054 : Unit := ()
def hd.tw12487502673411948298 : Unit := ()
def hd.tw3109861748172591687 : Unit := ()
def hd.tw16828841361933241965 : Unit := ()
def hd.tw15083628210047938546 : Unit := ()
def hd.tw6196171512934965099 : Unit := ()
def hd.tw17950676927832955104 : Unit := ()
def hd.tw10458740792067480800 : Unit := ()
def hd.tw4233181963852624665 : Unit := ()
def hd.tw1506431575118746342 : Unit := ()
def hd.tw17183224562656869120 : Unit := ()
def hd.tw13866372431405929976 : Unit := ()
def hd.tw8474319932439275077 : Unit := ()
def hd.tw15833661619300960221 : Unit := ()
def hd.tw17213754286329925777 : Unit := ()
def hd.tw3530705653197291679 : Unit := ()
def hd.tw16904818350239718627 : Unit := ()
def hd.tw6820862383352777685 : Unit := ()
def hd.tw2701402951725559080 : Unit := ()
def hd.tw402640490398009360 : Unit := ()
def hd.tw11632984921778587759 : Unit := ()
def hd.tw8716120427605611371 : Unit := ()
def hd.tw15837987909243819085 : Unit := ()
def hd.tw8960069828448710407 : Unit := ()
def hd.tw7120233287515763914 : Unit := ()
def hd.tw7763873220885509757 : Unit := ()
def hd.tw15642763164714097627 : Unit := ()
def hd.tw2845679848157327705 : Unit := ()
def hd.tw991583007596301734 : Unit := ()
def hd.tw3789350110615891812 : Unit := ()
def hd.tw18293851220164018083 : Unit := ()
def hd.tw1589133516308662214 : Unit := ()
def hd.tw15643275761693703936 : Unit := ()
def hd.tw5174551420813472067 : Unit := ()
def hd.tw9170477692918782315 : Unit := ()
def hd.tw18103342009636024947 : Unit := ()
def hd.tw15967140613478806237 : Unit := ()
def hd.tw432457690288141553 : Unit := ()
def hd.tw189712035060473897 : Unit := ()
def hd.tw17387473266821786944 : Unit := ()
def hd.tw6123773746684550334 : Unit := ()
def hd.tw7068711184596962023 : Unit := ()
def hd.tw1413172679324656950 : Unit := ()
def hd.tw9719896912496429819 : Unit := ()
def hd.tw5902613922787404954 : Unit := ()
def hd.tw1580110805410547442 : Unit := ()
def hd.tw10583446816852156582 : Unit := ()
def hd.tw10030107230732127627 : Unit := ()
def hd.tw12949589719889679912 : Unit := ()
def hd.tw8879563391730754479 : Unit := ()
def hd.tw8268277133935991078 : Unit := ()
def hd.tw14955159897011116063 : Unit := ()
def hd.tw10024716035694756283 : Unit := ()
def hd.tw10246146449241189800 : Unit := ()
def hd.tw5130813555471234732 : Unit := ()
def hd.tw16259696140248634718 : Unit := ()
def hd.tw11917015161858427179 : Unit := ()
def hd.tw9748044761591592747 : Unit := ()
def hd.tw16154546982801380032 : Unit := ()
def hd.tw18166333605607142505 : Unit := ()
def hd.tw11513968764499736323 : Unit := ()
def hd.tw212345690472687942 : Unit := ()
def hd.tw1359830224848277088 : Unit := ()
def hd.tw11054480109507316185 : Unit := ()
def hd.tw11631947586910100387 : Unit := ()
def hd.tw2327210489368252092 : Unit := ()
def hd.tw14560493823538711346 : Unit := ()
def hd.tw16634568088961857937 : Unit := ()
def hd.tw5629675986466331604 : Unit := ()
def hd.tw6164396464334811476 : Unit := ()
def hd.tw18245042118932799458 : Unit := ()
def hd.tw2101469004524951375 : Unit := ()
def hd.tw8934143017859847078 : Unit := ()
def hd.tw8025032847418708242 : Unit := ()
def hd.tw4846842124234013525 : Unit := ()
def hd.tw15422856539912107476 : Unit := ()
def hd.tw464777395874653626 : Unit := ()
def hd.tw1836080755315867724 : Unit := ()
def hd.tw1013155817946168525 : Unit := ()
def hd.tw17330945745186091897 : Unit := ()
def hd.tw16970440968685349367 : Unit := ()
def hd.tw2579454770575251584 : Unit := ()
def hd.tw18093812233618175256 : Unit := ()
def hd.tw12399718760709695909 : Unit := ()
def hd.tw5054737718236178183 : Unit := ()
def hd.tw13409441903868389331 : Unit := ()
def hd.tw9763420282994701918 : Unit := ()
def hd.tw17672654358674132775 : Unit := ()
def hd.tw11715181796007767841 : Unit := ()
def hd.tw17893044597097874663 : Unit := ()
def hd.tw13267510147771200024 : Unit := ()
def hd.tw11032806212648032379 : Unit := ()
def hd.tw14906377314874228009 : Unit := ()
def hd.tw15042006015671813226 : Unit := ()
def hd.tw16640546478005224243 : Unit := ()
def hd.tw18343703819029505601 : Unit := ()
def hd.tw2930668341846507884 : Unit := ()
def hd.tw13277076834127875243 : Unit := ()
def hd.tw15220180469806662145 : Unit := ()
def hd.tw7023726343779634624 : Unit := ()
def hd.tw13315533130655954831 : Unit := ()
def hd.tw3309697970292668127 : Unit := ()
def hd.tw12614811148066621264 : Unit := ()
def hd.tw9741134391959003819 : Unit := ()
def hd.tw14553816603554493358 : Unit := ()
def hd.tw11709330566771433103 : Unit := ()
def hd.tw16722109127936396110 : Unit := ()
def hd.tw11402939732021071671 : Unit := ()
def hd.tw5608270528595127837 : Unit := ()
def hd.tw6555240042291301478 : Unit := ()
def hd.tw6411954120941647267 : Unit := ()
def hd.tw922143313871775805 : Unit := ()
def hd.tw3442329435671937591 : Unit := ()
def hd.tw12070051907170230399 : Unit := ()
def hd.tw11232374478483605306 : Unit := ()
def hd.tw6038821095411175016 : Unit := ()
def hd.tw2442259710966052079 : Unit := ()
def hd.tw16211521421427940678 : Unit := ()
def hd.tw2603259988358896889 : Unit := ()
def hd.tw17714235663813219645 : Unit := ()
def hd.tw5366084841770067474 : Unit := ()
def hd.tw10614716105012338702 : Unit := ()
def hd.tw16905381568432367864 : Unit := ()
def hd.tw1800889605409440832 : Unit := ()
def hd.tw9960721518486171458 : Unit := ()
def hd.tw16007149819294483003 : Unit := ()
def hd.tw5036846961687405229 : Unit := ()
def hd.tw14754404106442844205 : Unit := ()
def hd.tw17903497710992402801 : Unit := ()
def hd.tw10779200252408728858 : Unit := ()
def hd.tw9345929723534960622 : Unit := ()
def hd.tw3919010098100093602 : Unit := ()
def hd.tw1997569388931296116 : Unit := ()
def hd.tw17948085552500728524 : Unit := ()
def hd.tw17054507655720011243 : Unit := ()
def hd.tw5416991563250132298 : Unit := ()
def hd.tw11389486352061984695 : Unit := ()
def hd.tw1760603350576429475 : Unit := ()
def hd.tw3008623586974134963 : Unit := ()
def hd.tw16920754564084929960 : Unit := ()
def hd.tw17975533764899295144 : Unit := ()
def hd.tw16868993833207775613 : Unit := ()
def hd.tw1848646778235469078 : Unit := ()
def hd.tw4402725079659364252 : Unit := ()
def hd.tw8226494294326810461 : Unit := ()
def hd.tw11251137523995926341 : Unit := ()
def hd.tw13770079208771991547 : Unit := ()
def hd.tw17739348878880393726 : Unit := ()
def hd.tw11319892378374348655 : Unit := ()
def hd.tw3452082135128663414 : Unit := ()
def hd.tw728884934406724761 : Unit := ()
def hd.tw17606422857730326317 : Unit := ()
def hd.tw13368278939475635651 : Unit := ()
def hd.tw11465210709893060100 : Unit := ()
def hd.tw10145344219372386046 : Unit := ()
def hd.tw15344866539931968096 : Unit := ()
def hd.tw18291419657060728153 : Unit := ()
def hd.tw4086058157674990017 : Unit := ()
def hd.tw395138700845864316 : Unit := ()
def hd.tw7494724483528729301 : Unit := ()
def hd.tw9673543361469618366 : Unit := ()
def hd.tw8457440626546761165 : Unit := ()
def hd.tw9566141503761928105 : Unit := ()
def hd.tw16157073509204512506 : Unit := ()
def hd.tw3571134770919094901 : Unit := ()
def hd.tw15529170255622000948 : Unit := ()
def hd.tw13181700845877081190 : Unit := ()
def hd.tw12647368939536790636 : Unit := ()
def hd.tw16240987189780228909 : Unit := ()
def hd.tw7754304195085646258 : Unit := ()
def hd.tw15673258824015622330 : Unit := ()
def hd.tw17430575921969211009 : Unit := ()
def hd.tw7854111351294004744 : Unit := ()
def hd.tw3795277891434052102 : Unit := ()
def hd.tw6868836192036940282 : Unit := ()
def hd.tw7355570028127101125 : Unit := ()
def hd.tw6767318904944593275 : Unit := ()
def hd.tw10601615944963115059 : Unit := ()
def hd.tw10678649693572172417 : Unit := ()
def hd.tw14478148883734587675 : Unit := ()
def hd.tw2608437505485318709 : Unit := ()
def hd.tw15852365999677673905 : Unit := ()
def hd.tw18264374347568628810 : Unit := ()
def hd.tw17177331786930743035 : Unit := ()
def hd.tw758273949599710562 : Unit := ()
def hd.tw7289634563603522867 : Unit := ()
def hd.tw13091844219050505765 : Unit := ()
def hd.tw17542962492245011380 : Unit := ()
def hd.tw17252143746492648416 : Unit := ()
def hd.tw6184460063843016694 : Unit := ()
def hd.tw14457593812595234344 : Unit := ()
def hd.tw5343241284826551009 : Unit := ()
def hd.tw2323474266016966308 : Unit := ()
def hd.tw11162318198679636149 : Unit := ()
def hd.tw6264232113106981867 : Unit := ()
def hd.tw18219297243305740317 : Unit := ()
def hd.tw4702841417184801058 : Unit := ()
def hd.tw15367242080415987702 : Unit := ()
def hd.tw11136197038861592535 : Unit := ()
def hd.tw18293732401869909652 : Unit := ()
def hd.tw11660266114150955751 : Unit := ()
def hd.tw6442067068224118133 : Unit := ()
def hd.tw16477043939570097188 : Unit := ()
def hd.tw16171809288044610508 : Unit := ()
def hd.tw15615420239508185596 : Unit := ()
def hd.tw3229955645248102723 : Unit := ()
def hd.tw10603584201595350602 : Unit := ()
def hd.tw14980023328507725902 : Unit := ()
def hd.tw2887051446865420828 : Unit := ()
def hd.tw9657781627882305391 : Unit := ()
def hd.tw2068664650715991707 : Unit := ()
def hd.tw1241404454085649124 : Unit := ()
def hd.tw2329189449893159454 : Unit := ()
def hd.tw5190246844813560578 : Unit := ()
def hd.tw7184745663730752293 : Unit := ()
def hd.tw5193626691418679909 : Unit := ()
def hd.tw26425463804135960 : Unit := ()
def hd.tw3350844169311001129 : Unit := ()
def hd.tw15683763237869141255 : Unit := ()
def hd.tw4297731678662094536 : Unit := ()
def hd.tw12629568148972539762 : Unit := ()
def hd.tw7028611270464810887 : Unit := ()
def hd.tw16011055738799735888 : Unit := ()
def hd.tw12113243949977362033 : Unit := ()
def hd.tw8228950375871286339 : Unit := ()
def hd.tw10879034167726328663 : Unit := ()
def hd.tw16064382804478563927 : Unit := ()
def hd.tw6394381022753523788 : Unit := ()
def hd.tw17062030032774818151 : Unit := ()
def hd.tw6305734824756694309 : Unit := ()
def hd.tw2252305205657439004 : Unit := ()
def hd.tw2708950531961675432 : Unit := ()
def hd.tw4494801613693538912 : Unit := ()
def hd.tw10424393626065333798 : Unit := ()
def hd.tw1439246655266547700 : Unit := ()
def hd.tw6438293893037913957 : Unit := ()
def hd.tw3429492842335990350 : Unit := ()
set_option maxRecDepth 100000 in
set_option maxHeartbeats 0 in
set_option Elab.async true in
theorem hd : PySem.Challenge.rw_xm0311_01.Holds := by
  w_on; o_law; k_head; (case hw => w_witness2)
  k_go0
  show PySem.wpAny (PySem.model PySem.Challenge.rw_xm0311_01.row.prog _) (lawCx _ _ _).A (PySem.execs (dBody (defAt 61)) (lawCx _ _ _).env) _ _ (st _ _ _)
  refine law_called (A := theAd) ?_ (by assumption) (by assumption) (by assumption) (by assumption) ?_ (by assumption) (by assumption) (by assumption) (by assumption)
  · unfold theAd
    constructor
    all_goals (try dsimp only)
    all_goals first
      | k_is
      | (refine def_of rfl ?_ ?_ <;> ((try dsimp only); k_is))
      | (refine ⟨?_, dic_of rfl (by k_keys) (by kernel_rfl) (by decide)⟩; k_is)
      | (refine ⟨?_, tup_of rfl (by kernel_rfl)⟩; k_is)
      | (refine ⟨?_, ?_, ?_⟩ <;> k_is)
      | (refine ⟨?_, ?_⟩ <;> k_is)
      | exact ⟨_, rfl⟩
      | (refine cls_of ?_ ?_ ?_ ?_ ?_ (all4 ?_ ?_ ?_ ?_) (all4 ?_ ?_ ?_ ?_) <;> k_is)
      | (refine cls_of ?_ ?_ ?_ ?_ ?_ (all1 ?_) (all1 ?_) <;> k_is)
  · rfl
end Mine
theorem PySem.Challenge.cw_xm0311_01_holds : PySem.Challenge.rw_xm0311_01.Holds := by
  exact Mine.hd
